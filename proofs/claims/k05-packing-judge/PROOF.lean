import PyProof.Rows.All
import Wide.All
import OpenK.AllK
import Wide.FinOn
import HandS.ForMost
import HandS.Deep
import HandS.IsInst
import HandS.Wide
import HandS.TupAny
import HandS.SortInts
import HandS.Style
import HandS.TupLen
import HandS.NoneIn
import HandS.Small
import HandS.TupSets
import HandS.Sort
import PySem.Challenge.RW_whywait_k05_packing_judge
set_option Elab.async false
set_option linter.all false
set_option maxRecDepth 100000
set_option maxHeartbeats 4000000
/-! The pure layer, part 0: trees of data, trees of ownership, what of the heap they stand for. -/
namespace PL
open PySem L2

inductive Shape where
  | lst | tup | ro | dK (ks : List Key) | dT (ks : List (List Key)) | obj (C : Addr) (ns : List Str)
  deriving DecidableEq
inductive D where
  | non | bl (b : Bool) | int (i : Int) | str (x : Str) | node (sh : Shape) (ks : List D)
  deriving Inhabited
inductive T where
  | s (d : D) | node (sh : Shape) (ks : List T)
  deriving Inhabited
abbrev D.lst (xs : List D) : D := .node .lst xs
abbrev D.tup (xs : List D) : D := .node .tup xs
abbrev T.lst (xs : List T) : T := .node .lst xs
mutual
def T.er : T → D
  | .s d => d
  | .node sh ks => .node sh (ers ks)
def ers : List T → List D
  | [] => []
  | t :: ts => t.er :: ers ts
end
theorem ers_map : ∀ ts : List T, ers ts = ts.map T.er
  | [] => rfl
  | t :: ts => by show t.er :: ers ts = _; rw [ers_map ts]; rfl
@[simp] theorem er_s (d : D) : (T.s d).er = d := rfl
@[simp] theorem er_node (sh : Shape) (ts : List T) : (T.node sh ts).er = .node sh (ts.map T.er) := by
  show D.node sh (ers ts) = _
  rw [ers_map]
theorem er_s_map (ds : List D) : (ds.map T.s).map T.er = ds := by
  rw [List.map_map]
  exact List.map_id ds

/-- all that is tracked stays -/
abbrev Ex (H H' : Hp) : Prop := Same H H'
theorem ex_rd {H H' : Hp} {a : Addr} {u : HO} (e : Ex H H') (h : Rd H a u) : Rd H' a u := by
  rcases h with h | ⟨o, h⟩
  · exact .inl (e a _ h)
  · exact .inr ⟨o, e a _ h⟩
theorem ex_l {K : PySem.W.Frag} {H H' : Hp} {a : Addr} {xs : List V} (e : Ex H H') (h : SqL K H a xs) : SqL K H' a xs := by
  rcases h with h | h
  · exact .inl (ex_rd e h)
  · exact .inr h
theorem ex_t {K : PySem.W.Frag} {H H' : Hp} {a : Addr} {xs : List V} (e : Ex H H') (h : SqT K H a xs) : SqT K H' a xs := by
  rcases h with h | h
  · exact .inl (ex_rd e h)
  · exact .inr h
theorem ex_new {H : Hp} {p : Addr} {o : HO} (h : H p = none) : Ex H (upd H p o) := fun a u e => by
  rw [upd_ne (ne_of_none e h)]
  exact e

/-- what is read at p as a node -/
def NodeR (K : PySem.W.Frag) (S : Hp) (p : Addr) : Shape → List V → Prop
  | .lst, vs => S p = some (.lst vs)
  | .ro, vs => SqL K S p vs
  | .tup, vs => S p = some (.tup vs)
  | .dK ks, vs => ks.length = vs.length ∧ Rd S p (.dK (ks.zip vs))
  | .dT ks, vs => ks.length = vs.length ∧ Rd S p (.dT (ks.zip vs))
  | .obj C ns, vs => ns.length = vs.length ∧ ∃ dx, S p = some (.ins C dx (ns.zip vs))
theorem NodeR.mono {K : PySem.W.Frag} {S S' : Hp} {p : Addr} {vs : List V} (e : Ex S S') : ∀ {sh : Shape}, NodeR K S p sh vs → NodeR K S' p sh vs
  | .lst, h => e _ _ h
  | .ro, h => ex_l e h
  | .tup, h => e _ _ h
  | .dK _, h => ⟨h.1, ex_rd e h.2⟩
  | .dT _, h => ⟨h.1, ex_rd e h.2⟩
  | .obj _ _, h => ⟨h.1, let ⟨dx, q⟩ := h.2; ⟨dx, e _ _ q⟩⟩
/-- what stands at an owned node -/
def ShO : Shape → List V → HO → Prop
  | .lst, vs, o => o = .lst vs
  | .tup, _, _ => False
  | .ro, _, _ => False
  | .dK ks, vs, o => ks.length = vs.length ∧ o = .dK (ks.zip vs) ∧ ks.Nodup
  | .dT ks, vs, o => ks.length = vs.length ∧ o = .dT (ks.zip vs) ∧ ks.Nodup
  | .obj C ns, vs, o => ns.length = vs.length ∧ ∃ dx, o = .ins C dx (ns.zip vs)
theorem ShO.read {K : PySem.W.Frag} {S : Hp} {p : Addr} {vs : List V} {o : HO} (e : S p = some o) : ∀ {sh : Shape}, ShO sh vs o → NodeR K S p sh vs
  | .lst, h => e.trans (congrArg some h)
  | .tup, h => h.elim
  | .ro, h => h.elim
  | .dK _, h => ⟨h.1, .inl (by rw [e]; exact congrArg some h.2.1)⟩
  | .dT _, h => ⟨h.1, .inl (by rw [e]; exact congrArg some h.2.1)⟩
  | .obj _ _, h => ⟨h.1, let ⟨dx, q⟩ := h.2; ⟨dx, by rw [e]; exact congrArg some q⟩⟩
/-- an owned node can be written -/
theorem ShO.mu {vs : List V} {o : HO} : ∀ {sh : Shape}, ShO sh vs o → Mut (some o)
  | .lst, h => by cases h; trivial
  | .tup, h => h.elim
  | .ro, h => h.elim
  | .dK _, h => by obtain ⟨_, rfl, _⟩ := h; trivial
  | .dT _, h => by obtain ⟨_, rfl, _⟩ := h; trivial
  | .obj _ _, h => by obtain ⟨_, _, rfl⟩ := h; trivial

mutual
inductive Rep (K : PySem.W.Frag) (S : Hp) : V → D → Prop
  | non : Rep K S .non .non
  | bl (b : Bool) : Rep K S (.bl b) (.bl b)
  | int (i : Int) : Rep K S (.int i) (.int i)
  | str (x : Str) : Rep K S (.str x) (.str x)
  | node {p : Addr} {sh : Shape} {vs : List V} {ds : List D} : NodeR K S p sh vs → vs.length ≤ sizeLine → RepL K S vs ds → Rep K S (.ref p) (.node sh ds)
inductive RepL (K : PySem.W.Frag) (S : Hp) : List V → List D → Prop
  | nil : RepL K S [] []
  | cons {v : V} {vs : List V} {d : D} {ds : List D} : Rep K S v d → RepL K S vs ds → RepL K S (v :: vs) (d :: ds)
end
mutual
theorem Rep.mono {K : PySem.W.Frag} {S S' : Hp} (e : Ex S S') : ∀ {d : D} {v : V}, Rep K S v d → Rep K S' v d
  | .non, _, h => by cases h; exact .non
  | .bl _, _, h => by cases h; exact .bl _
  | .int _, _, h => by cases h; exact .int _
  | .str _, _, h => by cases h; exact .str _
  | .node _ _, _, h => by
    cases h with
    | node h1 h2 h3 => exact .node (h1.mono e) h2 (RepL.mono e h3)
theorem RepL.mono {K : PySem.W.Frag} {S S' : Hp} (e : Ex S S') : ∀ {ds : List D} {vs : List V}, RepL K S vs ds → RepL K S' vs ds
  | [], _, h => by cases h; exact .nil
  | d :: ds, _, h => by
    cases h with
    | cons h1 h2 => exact .cons (Rep.mono e h1) (RepL.mono e h2)
end
theorem RepL.len {K : PySem.W.Frag} {S : Hp} : ∀ {ds : List D} {vs : List V}, RepL K S vs ds → vs.length = ds.length
  | [], _, h => by cases h; rfl
  | d :: ds, _, h => by
    cases h with
    | cons h1 h2 => rw [List.length_cons, List.length_cons, RepL.len h2]
theorem RepL.get {K : PySem.W.Frag} {S : Hp} : ∀ {ds : List D} {vs : List V} {i : Nat} {d : D}, RepL K S vs ds → ds[i]? = some d → ∃ v, vs[i]? = some v ∧ Rep K S v d
  | [], _, _, _, _, h => by simp at h
  | d :: ds, _, i, x, h, e => by
    cases h with
    | cons h1 h2 =>
      cases i with
      | zero => simp at e; subst e; exact ⟨_, rfl, h1⟩
      | succ i =>
        obtain ⟨v, a, b⟩ := RepL.get h2 (show ds[i]? = some x by simpa using e)
        exact ⟨v, by simpa using a, b⟩
theorem RepL.getV {K : PySem.W.Frag} {S : Hp} {ds : List D} {vs : List V} {i : Nat} {v : V} (h : RepL K S vs ds) (e : vs[i]? = some v) : ∃ d, ds[i]? = some d ∧ Rep K S v d := by
  have hi : i < ds.length := by
    rw [← h.len]
    exact (List.getElem?_eq_some_iff.mp e).1
  obtain ⟨v', a, b⟩ := h.get (List.getElem?_eq_getElem hi)
  rw [e] at a
  cases a
  exact ⟨_, List.getElem?_eq_getElem hi, b⟩
theorem RepL.append {K : PySem.W.Frag} {S : Hp} : ∀ {ds es : List D} {vs ws : List V}, RepL K S vs ds → RepL K S ws es → RepL K S (vs ++ ws) (ds ++ es)
  | [], _, _, _, h, g => by cases h; exact g
  | d :: ds, _, _, _, h, g => by
    cases h with
    | cons h1 h2 => exact .cons h1 (RepL.append h2 g)

mutual
inductive Own (K : PySem.W.Frag) (S H : Hp) : V → T → List Addr → Prop
  | s {v : V} {d : D} : Rep K S v d → Own K S H v (.s d) []
  | node {p : Addr} {o : HO} {sh : Shape} {vs : List V} {ts : List T} {F : List Addr} : H p = some o → ShO sh vs o → vs.length ≤ sizeLine → OwnL K S H vs ts F → p ∉ F → Own K S H (.ref p) (.node sh ts) (p :: F)
inductive OwnL (K : PySem.W.Frag) (S H : Hp) : List V → List T → List Addr → Prop
  | nil : OwnL K S H [] [] []
  | cons {v : V} {vs : List V} {t : T} {ts : List T} {F G : List Addr} : Own K S H v t F → OwnL K S H vs ts G → (∀ p ∈ F, p ∉ G) → OwnL K S H (v :: vs) (t :: ts) (F ++ G)
end
mutual
theorem Own.mono {K : PySem.W.Frag} {S S' H H' : Hp} (e : Ex S S') : ∀ {t : T} {v : V} {F : List Addr}, Own K S H v t F → (∀ p ∈ F, H' p = H p) → Own K S' H' v t F
  | .s _, _, _, h, _ => by
    cases h with
    | s h => exact .s (h.mono e)
  | .node _ _, _, _, h, k => by
    cases h with
    | node h1 h2 h3 h4 h5 => exact .node ((k _ (.head _)).trans h1) h2 h3 (OwnL.mono e h4 fun p hp => k p (.tail _ hp)) h5
theorem OwnL.mono {K : PySem.W.Frag} {S S' H H' : Hp} (e : Ex S S') : ∀ {ts : List T} {vs : List V} {F : List Addr}, OwnL K S H vs ts F → (∀ p ∈ F, H' p = H p) → OwnL K S' H' vs ts F
  | [], _, _, h, _ => by cases h; exact .nil
  | t :: ts, _, _, h, k => by
    cases h with
    | cons h1 h2 h3 => exact .cons (Own.mono e h1 fun p hp => k p (List.mem_append_left _ hp)) (OwnL.mono e h2 fun p hp => k p (List.mem_append_right _ hp)) h3
end
/-! frozen: what is owned comes into the shared part -/
mutual
theorem Own.frz {K : PySem.W.Frag} {S S' H : Hp} (e : Ex S S') : ∀ {t : T} {v : V} {F : List Addr}, Own K S H v t F → (∀ p ∈ F, S' p = H p) → Rep K S' v t.er
  | .s _, _, _, h, _ => by
    cases h with
    | s h => exact h.mono e
  | .node _ _, _, _, h, k => by
    cases h with
    | node h1 h2 h3 h4 h5 => exact .node (h2.read ((k _ (.head _)).trans h1)) h3 (OwnL.frz e h4 fun p hp => k p (.tail _ hp))
theorem OwnL.frz {K : PySem.W.Frag} {S S' H : Hp} (e : Ex S S') : ∀ {ts : List T} {vs : List V} {F : List Addr}, OwnL K S H vs ts F → (∀ p ∈ F, S' p = H p) → RepL K S' vs (ers ts)
  | [], _, _, h, _ => by cases h; exact .nil
  | t :: ts, _, _, h, k => by
    cases h with
    | cons h1 h2 h3 => exact .cons (Own.frz e h1 fun p hp => k p (List.mem_append_left _ hp)) (OwnL.frz e h2 fun p hp => k p (List.mem_append_right _ hp))
end
theorem Own.rep {K : PySem.W.Frag} {S H : Hp} {t : T} {v : V} {F : List Addr} (e : Ex S H) (h : Own K S H v t F) : Rep K H v t.er := h.frz e fun _ _ => rfl
mutual
theorem Own.dom {K : PySem.W.Frag} {S H : Hp} : ∀ {t : T} {v : V} {F : List Addr}, Own K S H v t F → ∀ p ∈ F, ∃ o, H p = some o ∧ Mut (some o)
  | .s _, _, _, h, _, hp => by
    cases h with
    | s h => cases hp
  | .node _ _, _, _, h, p, hp => by
    cases h with
    | node h1 h2 h3 h4 h5 =>
      cases hp with
      | head => exact ⟨_, h1, h2.mu⟩
      | tail _ hp => exact OwnL.dom h4 p hp
theorem OwnL.dom {K : PySem.W.Frag} {S H : Hp} : ∀ {ts : List T} {vs : List V} {F : List Addr}, OwnL K S H vs ts F → ∀ p ∈ F, ∃ o, H p = some o ∧ Mut (some o)
  | [], _, _, h, _, hp => by cases h; cases hp
  | t :: ts, _, _, h, p, hp => by
    cases h with
    | cons h1 h2 h3 =>
      rcases List.mem_append.mp hp with hp | hp
      · exact Own.dom h1 p hp
      · exact OwnL.dom h2 p hp
end
theorem Own.ne {K : PySem.W.Frag} {S H : Hp} {t : T} {v : V} {F : List Addr} (h : Own K S H v t F) {p : Addr} (hp : p ∈ F) : H p ≠ none := by
  obtain ⟨o, e, _⟩ := h.dom p hp
  rw [e]
  exact fun z => nomatch z
theorem OwnL.len {K : PySem.W.Frag} {S H : Hp} : ∀ {ts : List T} {vs : List V} {F : List Addr}, OwnL K S H vs ts F → vs.length = ts.length
  | [], _, _, h => by cases h; rfl
  | t :: ts, _, _, h => by
    cases h with
    | cons h1 h2 h3 => rw [List.length_cons, List.length_cons, OwnL.len h2]
/-- all shared -/
theorem OwnL.sh {K : PySem.W.Frag} {S H : Hp} : ∀ {ds : List D} {vs : List V}, RepL K S vs ds → OwnL K S H vs (ds.map T.s) []
  | [], _, h => by cases h; exact .nil
  | d :: ds, _, h => by
    cases h with
    | cons h1 h2 => exact .cons (F := []) (G := []) (.s h1) (OwnL.sh h2) (fun _ z => nomatch z)
theorem OwnL.unsh {K : PySem.W.Frag} {S H : Hp} : ∀ {ds : List D} {vs : List V} {F : List Addr}, OwnL K S H vs (ds.map T.s) F → RepL K S vs ds ∧ F = []
  | [], _, _, h => by cases h; exact ⟨.nil, rfl⟩
  | d :: ds, _, _, h => by
    cases h with
    | cons h1 h2 h3 =>
      cases h1 with
      | s h1 =>
        obtain ⟨a, rfl⟩ := OwnL.unsh h2
        exact ⟨.cons h1 a, rfl⟩
/-- a child, and what may come into its place -/
theorem OwnL.focus {K : PySem.W.Frag} {S H : Hp} : ∀ {ts : List T} {vs : List V} {F : List Addr} {i : Nat} {t : T}, OwnL K S H vs ts F → ts[i]? = some t →
    ∃ v Fi, vs[i]? = some v ∧ Own K S H v t Fi ∧ (∀ p ∈ Fi, p ∈ F) ∧
      ∀ {S' H' : Hp} {v' : V} {t' : T} {F' : List Addr}, Ex S S' → (∀ p ∈ F, p ∉ Fi → H' p = H p) → Own K S' H' v' t' F' → (∀ p ∈ F', p ∈ F → p ∈ Fi) →
        ∃ G, OwnL K S' H' (vs.set i v') (ts.set i t') G ∧ (∀ p ∈ G, p ∈ F' ∨ (p ∈ F ∧ p ∉ Fi))
  | [], _, _, _, _, _, e => by simp at e
  | t :: ts, _, _, i, x, h, e => by
    cases h with
    | @cons v vs _ _ F G h1 h2 h3 =>
      cases i with
      | zero =>
        simp at e
        subst e
        refine ⟨v, F, rfl, h1, fun p hp => List.mem_append_left _ hp, fun {S' H' v' t' F'} hs hk ho hd => ?_⟩
        refine ⟨F' ++ G, .cons ho (h2.mono hs fun p hp => hk p (List.mem_append_right _ hp) fun z => h3 p z hp) fun p hp hg => h3 p (hd p hp (List.mem_append_right _ hg)) hg, fun p hp => ?_⟩
        rcases List.mem_append.mp hp with hp | hp
        · exact .inl hp
        · exact .inr ⟨List.mem_append_right _ hp, fun z => h3 p z hp⟩
      | succ i =>
        obtain ⟨w, Fi, q1, q2, q3, q4⟩ := OwnL.focus h2 (show ts[i]? = some x by simpa using e)
        refine ⟨w, Fi, by simpa using q1, q2, fun p hp => List.mem_append_right _ (q3 p hp), fun {S' H' v' t' F'} hs hk ho hd => ?_⟩
        have nF : ∀ p ∈ F, p ∉ Fi := fun p hp z => h3 p hp (q3 p z)
        obtain ⟨G', r1, r2⟩ := q4 hs (fun p hp hn => hk p (List.mem_append_right _ hp) hn) ho fun p hp hg => hd p hp (List.mem_append_right _ hg)
        refine ⟨F ++ G', .cons (h1.mono hs fun p hp => hk p (List.mem_append_left _ hp) (nF p hp)) r1 fun p hp hg => ?_, fun p hp => ?_⟩
        · rcases r2 p hg with z | ⟨z, _⟩
          · exact nF p hp (hd p z (List.mem_append_left _ hp))
          · exact h3 p hp z
        · rcases List.mem_append.mp hp with hp | hp
          · exact .inr ⟨List.mem_append_left _ hp, nF p hp⟩
          · rcases r2 p hp with z | ⟨z1, z2⟩
            · exact .inl z
            · exact .inr ⟨List.mem_append_right _ z1, z2⟩
end PL

/-! The pure layer, part 1: the slots' trees, how the state grows, the judgement of expressions. -/
namespace PL
open PySem L2

/-- a slot: unset; a tree that is its own (pinned: the object that came as an argument); one that a loop walks -/
inductive Cell where
  | un | own (pin : Option V) (t : T) | lk (F : List Addr) (t : T)
abbrev En := List Cell
def Cell.tr : Cell → Option T
  | .un => none
  | .own _ t => some t
  | .lk _ t => some t
def T.at : T → List Nat → Option T
  | t, [] => some t
  | .node _ ks, k :: π => (ks[k]?).bind fun c => c.at π
  | .s _, _ :: _ => none
def look (env : En) (i : Nat) (π : List Nat) : Option T := (env[i]?).bind fun c => c.tr.bind fun t => t.at π

def SlotOk (K : PySem.W.Frag) (S B H : Hp) : Cell → Option V → List Addr → Prop
  | .un, _, F => F = []
  | .own pin t, ov, F => ∃ v, ov = some v ∧ (∀ w, pin = some w → v = w) ∧ Own K S H v t F ∧ ∀ p ∈ F, B p = none
  | .lk F0 t, ov, F => F = F0 ∧ ∃ v, ov = some v ∧ Own K S H v t F ∧ ∀ p ∈ F, B p = H p ∧ S p = none
inductive SlotsOk (K : PySem.W.Frag) (S B H : Hp) : En → L2.St → List Addr → Prop
  | nil : SlotsOk K S B H [] [] []
  | cons {c : Cell} {ov : Option V} {cs : En} {σ : L2.St} {F G : List Addr} : SlotOk K S B H c ov F → SlotsOk K S B H cs σ G → (∀ p ∈ F, p ∉ G) → SlotsOk K S B H (c :: cs) (ov :: σ) (F ++ G)
structure SR (K : PySem.W.Frag) (S B H : Hp) (σ : L2.St) (env : En) : Prop where
  sb : Ex S B
  bh : Ex B H
  sl : ∃ G, SlotsOk K S B H env σ G

section
variable {K : PySem.W.Frag} {S B H S' B' H' : Hp} {σ : L2.St} {env : En} {G F : List Addr}
/-- how a footprint stays as it is -/
def Keeps (S B H S' B' H' : Hp) (p : Addr) : Prop := H' p = H p ∧ (B p = none → B' p = none) ∧ (B p = H p → S p = none → B' p = H' p ∧ S' p = none)
theorem SlotOk.mono {c : Cell} {ov : Option V} (e : Ex S S') (h : SlotOk K S B H c ov F) (k : ∀ p ∈ F, Keeps S B H S' B' H' p) : SlotOk K S' B' H' c ov F := by
  cases c with
  | un => exact h
  | own pin t =>
    obtain ⟨v, e1, e2, o, q⟩ := h
    exact ⟨v, e1, e2, o.mono e fun p hp => (k p hp).1, fun p hp => (k p hp).2.1 (q p hp)⟩
  | lk F0 t =>
    obtain ⟨eF, v, e1, o, q⟩ := h
    exact ⟨eF, v, e1, o.mono e fun p hp => (k p hp).1, fun p hp => (k p hp).2.2 (q p hp).1 (q p hp).2⟩
theorem SlotsOk.mono (e : Ex S S') : ∀ {env : En} {σ : L2.St} {G : List Addr}, SlotsOk K S B H env σ G → (∀ p ∈ G, Keeps S B H S' B' H' p) → SlotsOk K S' B' H' env σ G
  | _, _, _, .nil, _ => .nil
  | _, _, _, .cons h1 h2 h3, k => .cons (h1.mono e fun p hp => k p (List.mem_append_left _ hp)) (SlotsOk.mono e h2 fun p hp => k p (List.mem_append_right _ hp)) h3
theorem SlotOk.ne {c : Cell} {ov : Option V} (h : SlotOk K S B H c ov F) : ∀ p ∈ F, ∃ o, H p = some o ∧ Mut (some o) := by
  cases c with
  | un => intro p hp; cases h; cases hp
  | own pin t =>
    obtain ⟨v, e1, e2, o, q⟩ := h
    exact o.dom
  | lk F0 t =>
    obtain ⟨_, v, e1, o, q⟩ := h
    exact o.dom
theorem SlotsOk.ne : ∀ {env : En} {σ : L2.St} {G : List Addr}, SlotsOk K S B H env σ G → ∀ p ∈ G, ∃ o, H p = some o ∧ Mut (some o)
  | _, _, _, .nil, _, hp => nomatch hp
  | _, _, _, .cons h1 h2 h3, p, hp => (List.mem_append.mp hp).elim (h1.ne p) (SlotsOk.ne h2 p)
theorem SlotsOk.len : ∀ {env : En} {σ : L2.St} {G : List Addr}, SlotsOk K S B H env σ G → env.length = σ.length
  | _, _, _, .nil => rfl
  | _, _, _, .cons h1 h2 h3 => by rw [List.length_cons, List.length_cons, SlotsOk.len h2]
/-- one slot, and what may come into its place -/
theorem SlotsOk.focus : ∀ {env : En} {σ : L2.St} {G : List Addr} {i : Nat} {c : Cell}, SlotsOk K S B H env σ G → env[i]? = some c →
    ∃ ov F, σ[i]? = some ov ∧ SlotOk K S B H c ov F ∧ (∀ p ∈ F, p ∈ G) ∧
      ∀ {S' B' H' : Hp} {c' : Cell} {ov' : Option V} {F' : List Addr}, Ex S S' → (∀ p ∈ G, p ∉ F → Keeps S B H S' B' H' p) → SlotOk K S' B' H' c' ov' F' → (∀ p ∈ F', p ∈ G → p ∈ F) →
        ∃ G', SlotsOk K S' B' H' (env.set i c') (σ.set i ov') G' ∧ (∀ p ∈ G', p ∈ F' ∨ (p ∈ G ∧ p ∉ F))
  | _, _, _, _, _, .nil, e => by simp at e
  | _, _, _, i, x, @SlotsOk.cons _ _ _ _ c ov cs σ F G h1 h2 h3, e => by
    cases i with
    | zero =>
      simp at e
      subst e
      refine ⟨ov, F, rfl, h1, fun p hp => List.mem_append_left _ hp, fun {S' B' H' c' ov' F'} hs hk ho hd => ?_⟩
      refine ⟨F' ++ G, .cons ho (h2.mono hs fun p hp => hk p (List.mem_append_right _ hp) fun z => h3 p z hp) fun p hp hg => h3 p (hd p hp (List.mem_append_right _ hg)) hg, fun p hp => ?_⟩
      rcases List.mem_append.mp hp with hp | hp
      · exact .inl hp
      · exact .inr ⟨List.mem_append_right _ hp, fun z => h3 p z hp⟩
    | succ i =>
      obtain ⟨w, Fi, q1, q2, q3, q4⟩ := SlotsOk.focus h2 (show cs[i]? = some x by simpa using e)
      refine ⟨w, Fi, by simpa using q1, q2, fun p hp => List.mem_append_right _ (q3 p hp), fun {S' B' H' c' ov' F'} hs hk ho hd => ?_⟩
      have nF : ∀ p ∈ F, p ∉ Fi := fun p hp z => h3 p hp (q3 p z)
      obtain ⟨G', r1, r2⟩ := q4 hs (fun p hp hn => hk p (List.mem_append_right _ hp) hn) ho fun p hp hg => hd p hp (List.mem_append_right _ hg)
      refine ⟨F ++ G', .cons (h1.mono hs fun p hp => hk p (List.mem_append_left _ hp) (nF p hp)) r1 fun p hp hg => ?_, fun p hp => ?_⟩
      · rcases r2 p hg with z | ⟨z, _⟩
        · exact nF p hp (hd p z (List.mem_append_left _ hp))
        · exact h3 p hp z
      · rcases List.mem_append.mp hp with hp | hp
        · exact .inr ⟨List.mem_append_left _ hp, nF p hp⟩
        · rcases r2 p hp with z | ⟨z1, z2⟩
          · exact .inl z
          · exact .inr ⟨List.mem_append_right _ z1, z2⟩

/-- the shared part and the kept part grow -/
structure Evo (S B S' B' : Hp) : Prop where
  s : Ex S S'
  b : Ex B B'
  n : ∀ p, S' p ≠ none → S p = none → B p = none
theorem Evo.refl (S B : Hp) : Evo S B S B := ⟨.refl _, .refl _, fun p h e => absurd e h⟩
theorem ex_none {H H' : Hp} (e : Ex H H') {p : Addr} (h : H' p = none) : H p = none := e.free h
theorem Evo.trans {S1 B1 S2 B2 : Hp} (a : Evo S B S1 B1) (b : Evo S1 B1 S2 B2) : Evo S B S2 B2 := ⟨a.s.trans b.s, a.b.trans b.b, fun p h e => by
  cases q : S1 p with
  | none => exact ex_none a.b (b.n p h q)
  | some o => exact a.n p (by rw [q]; exact fun z => nomatch z) e⟩
/-- an expression has run: nothing is changed, new things have come -/
structure Gro (S B H S' B' H' : Hp) : Prop where
  h : Ex H H'
  e : Evo S B S' B'
  n : ∀ p, B' p ≠ none → B p = none → H p = none
  sb : Ex S' B'
  bh : Ex B' H'
theorem Gro.refl (sb : Ex S B) (bh : Ex B H) : Gro S B H S B H := ⟨.refl _, .refl _ _, fun p h e => absurd e h, sb, bh⟩
theorem Gro.trans {S1 B1 H1 S2 B2 H2 : Hp} (a : Gro S B H S1 B1 H1) (b : Gro S1 B1 H1 S2 B2 H2) : Gro S B H S2 B2 H2 := ⟨a.h.trans b.h, a.e.trans b.e, fun p h e => by
  cases q : B1 p with
  | none => exact ex_none a.h (b.n p h q)
  | some o => exact a.n p (by rw [q]; exact fun z => nomatch z) e, b.sb, b.bh⟩
theorem Gro.keeps (g : Gro S B H S' B' H') {p : Addr} {o : HO} (h : H p = some o) : Keeps S B H S' B' H' p := by
  have hn : B p = none → B' p = none := fun e => by
    cases q : B' p with
    | none => rfl
    | some u =>
      have z := g.n p (by rw [q]; exact fun z => nomatch z) e
      rw [h] at z
      cases z
  refine ⟨by rw [h]; exact g.h p o h, hn, fun e1 e2 => ⟨?_, ?_⟩⟩
  · rw [g.h p o h]
    exact g.e.b p o (by rw [e1]; exact h)
  · cases q : S' p with
    | none => rfl
    | some u =>
      have z := g.e.n p (by rw [q]; exact fun z => nomatch z) e2
      rw [e1, h] at z
      cases z
theorem SR.gro (r : SR K S B H σ env) (g : Gro S B H S' B' H') : SR K S' B' H' σ env := by
  obtain ⟨G, sl⟩ := r.sl
  refine ⟨g.sb, g.bh, G, sl.mono g.e.s fun p hp => ?_⟩
  obtain ⟨o, e, _⟩ := sl.ne p hp
  exact g.keeps e
theorem SR.sh (r : SR K S B H σ env) : Ex S H := r.sb.trans r.bh
/-- a new object, owned by whoever made it: only H grows -/
theorem Gro.new {p : Addr} {o : HO} (sb : Ex S B) (bh : Ex B H) (hp : H p = none) : Gro S B H S B (upd H p o) := ⟨ex_new hp, .refl _ _, fun q h e => absurd e h, sb, bh.trans (ex_new hp)⟩
theorem ex_upd2 {p : Addr} {o : HO} (e : Ex S B) (h : S p = none) : Ex (upd S p o) (upd B p o) := fun a u q => by
  by_cases ha : a = p
  · subst ha
    rw [upd_same] at q ⊢
    exact q
  · rw [upd_ne ha] at q ⊢
    exact e a u q
/-- a new object, shared from the start -/
theorem Gro.newS {p : Addr} {o : HO} (sb : Ex S B) (bh : Ex B H) (hp : H p = none) : Gro S B H (upd S p o) (upd B p o) (upd H p o) := by
  have hB : B p = none := ex_none bh hp
  have hS : S p = none := ex_none sb hB
  refine ⟨ex_new hp, ⟨ex_new hS, ex_new hB, fun q h e => ?_⟩, fun q h e => ?_, ex_upd2 sb hS, ex_upd2 bh hB⟩
  · by_cases hq : q = p
    · subst hq; exact hB
    · rw [upd_ne hq] at h
      exact absurd e h
  · by_cases hq : q = p
    · subst hq; exact hp
    · rw [upd_ne hq] at h
      exact absurd e h
/-- the part F of H joined to S -/
def joinF (S H : Hp) (F : List Addr) : Hp := fun p => if p ∈ F then H p else S p
theorem joinF_in {p : Addr} (h : p ∈ F) : joinF S H F p = H p := by unfold joinF; rw [if_pos h]
theorem joinF_out {p : Addr} (h : p ∉ F) : joinF S H F p = S p := by unfold joinF; rw [if_neg h]
theorem ex_joinF (e : Ex S H) : Ex S (joinF S H F) := fun a u q => by
  by_cases h : a ∈ F
  · rw [joinF_in h]; exact e a u q
  · rw [joinF_out h]; exact q
theorem joinF_ex (e : Ex S H) : Ex (joinF S H F) H := fun a u q => by
  by_cases h : a ∈ F
  · rw [joinF_in h] at q; exact q
  · rw [joinF_out h] at q; exact e a u q
theorem joinF_two (e : Ex S B) : Ex (joinF S H F) (joinF B H F) := fun a u q => by
  by_cases h : a ∈ F
  · rw [joinF_in h] at q ⊢; exact q
  · rw [joinF_out h] at q ⊢; exact e a u q
end

/-! ### paths -/
def kidsV : HO → List V
  | .lst vs => vs
  | .tup vs => vs
  | .dK kvs => kvs.map (·.2)
  | .dT kvs => kvs.map (·.2)
  | .ins _ _ fs => fs.map (·.2)
  | _ => []
theorem zip_snd {α β : Type} : ∀ {a : List α} {b : List β}, a.length = b.length → (a.zip b).map (·.2) = b
  | [], [], _ => rfl
  | [], _ :: _, h => by cases h
  | _ :: _, [], h => by cases h
  | _ :: a, y :: b, h => by
    rw [List.zip_cons_cons, List.map_cons, zip_snd (by simpa using h)]
theorem ShO.kids {vs : List V} {o : HO} : ∀ {sh : Shape}, ShO sh vs o → kidsV o = vs
  | .lst, h => by cases h; rfl
  | .tup, h => h.elim
  | .ro, h => h.elim
  | .dK _, h => by obtain ⟨e, rfl, _⟩ := h; exact zip_snd e
  | .dT _, h => by obtain ⟨e, rfl, _⟩ := h; exact zip_snd e
  | .obj _ _, h => by obtain ⟨e, _, rfl⟩ := h; exact zip_snd e
def At (H : Hp) : V → List Nat → V → Prop
  | v, [], w => v = w
  | v, k :: π, w => ∃ p o u, v = .ref p ∧ H p = some o ∧ (kidsV o)[k]? = some u ∧ At H u π w
theorem At.mono {H H' : Hp} (e : Ex H H') : ∀ {π : List Nat} {v w : V}, At H v π w → At H' v π w
  | [], _, _, h => h
  | _ :: π, _, _, ⟨p, o, u, e1, e2, e3, h⟩ => ⟨p, o, u, e1, e _ _ e2, e3, At.mono e h⟩
theorem At.inj {H : Hp} : ∀ {π : List Nat} {v w w' : V}, At H v π w → At H v π w' → w = w'
  | [], _, _, _, h, h' => h.symm.trans h'
  | _ :: π, _, _, _, ⟨p, o, u, e1, e2, e3, h⟩, ⟨p', o', u', e1', e2', e3', h'⟩ => by
    subst e1
    cases e1'
    rw [e2] at e2'
    cases e2'
    rw [e3] at e3'
    cases e3'
    exact At.inj h h'
theorem At.snoc {H : Hp} : ∀ {π : List Nat} {v w : V} {k : Nat} {p : Addr} {o : HO} {u : V}, At H v π w → w = .ref p → H p = some o → (kidsV o)[k]? = some u → At H v (π ++ [k]) u
  | [], _, _, _, p, o, u, h, e1, e2, e3 => by
    subst h
    exact ⟨p, o, u, e1, e2, e3, rfl⟩
  | _ :: π, _, _, _, p, o, u, ⟨p', o', u', a, b, c, h⟩, e1, e2, e3 => ⟨p', o', u', a, b, c, At.snoc h e1 e2 e3⟩
/-- an owned tree at a path, and what may come there -/
theorem Own.path {K : PySem.W.Frag} {S H : Hp} : ∀ {π : List Nat} {t t' : T} {v : V} {F : List Addr}, Own K S H v t F → t.at π = some t' → ∃ w F', At H v π w ∧ Own K S H w t' F' ∧ ∀ p ∈ F', p ∈ F
  | [], t, t', v, F, h, e => by
    have e' : t = t' := by cases t <;> exact Option.some.inj e
    subst e'
    exact ⟨v, F, rfl, h, fun _ hp => hp⟩
  | k :: π, t, t', v, F, h, e => by
    cases h with
    | s h => cases e
    | @node p o sh vs ts G h1 h2 h3 h4 h5 =>
      have e' : (ts[k]?).bind (fun c => c.at π) = some t' := e
      cases q : ts[k]? with
      | none => rw [q] at e'; cases e'
      | some c =>
        rw [q] at e'
        obtain ⟨u, Fi, a1, a2, a3, _⟩ := h4.focus q
        obtain ⟨w, F', b1, b2, b3⟩ := Own.path a2 e'
        exact ⟨w, F', ⟨p, o, u, rfl, h1, by rw [h2.kids]; exact a1, b1⟩, b2, fun x hx => .tail _ (a3 x (b3 x hx))⟩

/-! ### results of expressions -/
inductive R where
  | va (t : T) | bo (i : Nat) (π : List Nat)
def R.tr (env : En) : R → Option T
  | .va t => some t
  | .bo i π => look env i π
def RR (K : PySem.W.Frag) (S' B' H H' : Hp) (σ : L2.St) (v : V) : R → Prop
  | .va t => ∃ F, Own K S' H' v t F ∧ ∀ p ∈ F, H p = none ∧ B' p = none
  | .bo i π => ∃ v0, σ[i]? = some (some v0) ∧ At H' v0 π v
section
variable {K : PySem.W.Frag} {S B H S' B' H' S1 B1 H1 : Hp} {σ : L2.St} {env : En} {v : V} {r : R} {t : T}
theorem RR.sc {d : D} (h : Rep K S' v d) : RR K S' B' H H' σ v (.va (.s d)) := ⟨[], .s h, fun _ z => nomatch z⟩
/-- a result stays while more is made -/
theorem RR.gro (h : RR K S1 B1 H H1 σ v r) (a : Ex H H1) (g : Gro S1 B1 H1 S' B' H') : RR K S' B' H H' σ v r := by
  cases r with
  | va t =>
    obtain ⟨F, o, q⟩ := h
    refine ⟨F, o.mono g.e.s fun p hp => ?_, fun p hp => ⟨(q p hp).1, ?_⟩⟩
    · obtain ⟨ob, e, _⟩ := o.dom p hp
      exact (g.keeps e).1
    · obtain ⟨ob, e, _⟩ := o.dom p hp
      exact (g.keeps e).2.1 (q p hp).2
  | bo i π =>
    obtain ⟨v0, e, q⟩ := h
    exact ⟨v0, e, q.mono g.h⟩
/-- what a result is, as it stands; where it is its own, its footprint is new -/
theorem RR.get (h : RR K S' B' H H' σ v r) (sr : SR K S' B' H' σ env) (e : r.tr env = some t) :
    ∃ F, Own K S' H' v t F ∧ ((∃ t, r = .va t) → ∀ p ∈ F, H p = none ∧ B' p = none) := by
  cases r with
  | va u =>
    cases e
    obtain ⟨F, o, q⟩ := h
    exact ⟨F, o, fun _ => q⟩
  | bo i π =>
    obtain ⟨v0, e0, q⟩ := h
    obtain ⟨G, sl⟩ := sr.sl
    have e' : (env[i]?).bind (fun c => c.tr.bind fun t => t.at π) = some t := e
    cases hc : env[i]? with
    | none => rw [hc] at e'; cases e'
    | some c =>
      rw [hc] at e'
      obtain ⟨ov, F, s1, s2, s3, _⟩ := sl.focus hc
      rw [e0] at s1
      cases s1
      cases c with
      | un => cases e'
      | own pin u =>
        obtain ⟨v', z1, z2, o, z3⟩ := s2
        cases z1
        obtain ⟨w, F', a1, a2, a3⟩ := o.path (show u.at π = some t from e')
        cases a1.inj q
        exact ⟨F', a2, fun ⟨_, z⟩ => nomatch z⟩
      | lk F0 u =>
        obtain ⟨_, v', z1, o, z3⟩ := s2
        cases z1
        obtain ⟨w, F', a1, a2, a3⟩ := o.path (show u.at π = some t from e')
        cases a1.inj q
        exact ⟨F', a2, fun ⟨_, z⟩ => nomatch z⟩
theorem RR.rep (h : RR K S' B' H H' σ v r) (sr : SR K S' B' H' σ env) (e : r.tr env = some t) : Rep K H' v t.er := by
  obtain ⟨F, o, _⟩ := h.get sr e
  exact o.rep sr.sh
end

/-! ### the judgement of expressions -/
abbrev PX := En → (R → Prop) → Prop
abbrev Mono (p : PX) : Prop := ∀ (env : En) {P Q : R → Prop}, (∀ r, P r → Q r) → p env P → p env Q
def tD (K : PySem.W.Frag) (p : PX) : TE := fun σ H Q => ∃ S B env, SR K S B H σ env ∧ p env fun r => ∀ S' B' v H', Gro S B H S' B' H' → RR K S' B' H H' σ v r → Q v H'
structure PD (X : Cx) (e : Expr) (p : PX) : Prop where
  run : PE X e (tD X.K p)
  mono : Mono p
theorem PE.weak {X : Cx} {e : Expr} {t t' : TE} (h : PE X e t) (w : ∀ σ H Q, t' σ H Q → t σ H Q) : PE X e t' := ⟨fun pins s σ H Q I q => h.run pins s σ H Q I (w _ _ _ q)⟩
abbrev PB := En → (Bool → Prop) → Prop
abbrev MonoB (p : PB) : Prop := ∀ (env : En) {P Q : Bool → Prop}, (∀ r, P r → Q r) → p env P → p env Q
def tDT (K : PySem.W.Frag) (p : PB) : TT := fun σ H Q => ∃ S B env, SR K S B H σ env ∧ p env fun b => ∀ S' B' H', Gro S B H S' B' H' → Q b H'
structure PDT (X : Cx) (e : Expr) (p : PB) : Prop where
  run : PT X e (tDT X.K p)
  mono : MonoB p
theorem PT.weak {X : Cx} {e : Expr} {t t' : TT} (h : PT X e t) (w : ∀ σ H Q, t' σ H Q → t σ H Q) : PT X e t' := ⟨fun pins s σ H Q I q => h.run pins s σ H Q I (w _ _ _ q)⟩
abbrev PAs := En → (List R → Prop) → Prop
abbrev MonoA (p : PAs) : Prop := ∀ (env : En) {P Q : List R → Prop}, (∀ r, P r → Q r) → p env P → p env Q
inductive RRs (K : PySem.W.Frag) (S' B' H H' : Hp) (σ : L2.St) : List V → List R → List Addr → Prop
  | nil : RRs K S' B' H H' σ [] [] []
  | consT {v : V} {vs : List V} {t : T} {rs : List R} {F G : List Addr} : Own K S' H' v t F → (∀ p ∈ F, H p = none ∧ B' p = none) → RRs K S' B' H H' σ vs rs G → (∀ p ∈ F, p ∉ G) → RRs K S' B' H H' σ (v :: vs) (.va t :: rs) (F ++ G)
  | consB {v v0 : V} {vs : List V} {i : Nat} {π : List Nat} {rs : List R} {G : List Addr} : σ[i]? = some (some v0) → At H' v0 π v → RRs K S' B' H H' σ vs rs G → RRs K S' B' H H' σ (v :: vs) (.bo i π :: rs) G
def tDA (K : PySem.W.Frag) (p : PAs) : TA := fun σ H Q => ∃ S B env, SR K S B H σ env ∧ p env fun rs => ∀ S' B' vs H' G, Gro S B H S' B' H' → RRs K S' B' H H' σ vs rs G → Q vs H'
structure PDA (X : Cx) (es : List Expr) (p : PAs) : Prop where
  run : PA X es (tDA X.K p)
  mono : MonoA p
theorem PA.weak {X : Cx} {e : List Expr} {t t' : TA} (h : PA X e t) (w : ∀ σ H Q, t' σ H Q → t σ H Q) : PA X e t' := ⟨fun pos pins s σ H Q I q => h.run pos pins s σ H Q I (w _ _ _ q)⟩
section
variable {K : PySem.W.Frag} {S B H S' B' H' S1 B1 H1 : Hp} {σ : L2.St} {env : En} {v : V} {r : R} {t : T}
theorem RRs.dom : ∀ {vs : List V} {rs : List R} {G : List Addr}, RRs K S' B' H H' σ vs rs G → ∀ p ∈ G, ∃ o, H' p = some o ∧ H p = none ∧ B' p = none
  | _, _, _, .nil, _, hp => nomatch hp
  | _, _, _, .consT o q h d, p, hp => (List.mem_append.mp hp).elim (fun z => let ⟨u, e, _⟩ := o.dom p z; ⟨u, e, (q p z).1, (q p z).2⟩) (RRs.dom h p)
  | _, _, _, .consB _ _ h, p, hp => RRs.dom h p hp
theorem RRs.gro : ∀ {vs : List V} {rs : List R} {G : List Addr}, RRs K S1 B1 H H1 σ vs rs G → Gro S1 B1 H1 S' B' H' → RRs K S' B' H H' σ vs rs G
  | _, _, _, .nil, _ => .nil
  | _, _, _, .consT o q h d, g => .consT (o.mono g.e.s fun p hp => let ⟨_, e, _⟩ := o.dom p hp; (g.keeps e).1) (fun p hp => ⟨(q p hp).1, let ⟨_, e, _⟩ := o.dom p hp; (g.keeps e).2.1 (q p hp).2⟩) (RRs.gro h g) d
  | _, _, _, .consB e q h, g => .consB e (q.mono g.h) (RRs.gro h g)
theorem RRs.len : ∀ {vs : List V} {rs : List R} {G : List Addr}, RRs K S1 B1 H H1 σ vs rs G → vs.length = rs.length
  | _, _, _, .nil => rfl
  | _, _, _, .consT _ _ h _ => by rw [List.length_cons, List.length_cons, RRs.len h]
  | _, _, _, .consB _ _ h => by rw [List.length_cons, List.length_cons, RRs.len h]
/-- the entry heap may be taken earlier -/
theorem RRs.early : ∀ {vs : List V} {rs : List R} {G : List Addr} {H0 : Hp}, RRs K S1 B1 H H1 σ vs rs G → Ex H0 H → RRs K S1 B1 H0 H1 σ vs rs G
  | _, _, _, _, .nil, _ => .nil
  | _, _, _, _, .consT o q h d, e => .consT o (fun p hp => ⟨ex_none e (q p hp).1, (q p hp).2⟩) (RRs.early h e) d
  | _, _, _, _, .consB a b h, e => .consB a b (RRs.early h e)
theorem RR.early {H0 : Hp} (h : RR K S1 B1 H H1 σ v r) (e : Ex H0 H) : RR K S1 B1 H0 H1 σ v r := by
  cases r with
  | va t =>
    obtain ⟨F, o, q⟩ := h
    exact ⟨F, o, fun p hp => ⟨ex_none e (q p hp).1, (q p hp).2⟩⟩
  | bo i π => exact h
end

/-! ### names, constants, argument lists -/
section
variable {X : Cx} {e : Expr} {es : List Expr}
def pVar (i : Nat) : PX := fun env k => match env[i]? with
  | some (.own _ (.s d)) => k (.va (.s d))
  | some (.own _ (.node _ _)) => k (.bo i [])
  | some (.lk _ (.s d)) => k (.va (.s d))
  | some (.lk _ (.node _ _)) => k (.bo i [])
  | _ => False
theorem d_var {i : Nat} (h : PE X e (tVar i)) : PD X e (pVar i) := by
  refine ⟨PE.weak h fun σ H Q ⟨S, B, env, sr, q⟩ => ?_, fun env P Q f h => ?_⟩
  · obtain ⟨G, sl⟩ := sr.sl
    unfold pVar at q
    cases hc : env[i]? with
    | none => rw [hc] at q; exact q.elim
    | some c =>
      rw [hc] at q
      obtain ⟨ov, F, s1, s2, s3, _⟩ := sl.focus hc
      have g := Gro.refl sr.sb sr.bh
      cases c with
      | un => exact q.elim
      | own pin t =>
        obtain ⟨v, rfl, z2, o, z3⟩ := s2
        cases t with
        | s d =>
          cases o with
          | s o => exact ⟨v, s1, q S B v H g (RR.sc o)⟩
        | node sh ks => exact ⟨v, s1, q S B v H g ⟨v, s1, rfl⟩⟩
      | lk F0 t =>
        obtain ⟨_, v, rfl, o, z3⟩ := s2
        cases t with
        | s d =>
          cases o with
          | s o => exact ⟨v, s1, q S B v H g (RR.sc o)⟩
        | node sh ks => exact ⟨v, s1, q S B v H g ⟨v, s1, rfl⟩⟩
  · unfold pVar at h ⊢
    split <;> simp_all
def pC (d : D) : PX := fun _ k => k (.va (.s d))
theorem d_c {v : V} {d : D} (h : PE X e (tC v)) (r : ∀ K S, Rep K S v d) : PD X e (pC d) :=
  ⟨PE.weak h fun σ H Q ⟨S, B, env, sr, q⟩ => q S B v H (Gro.refl sr.sb sr.bh) (RR.sc (r _ _)), fun env P Q f h => f _ h⟩
theorem d_int {i j pos} : PD X (.Constant (.int i) j pos) (pC (.int i)) := d_c pe_int fun _ _ => .int i
theorem d_bl {i j pos} : PD X (.Constant (.bool i) j pos) (pC (.bl i)) := d_c pe_bl fun _ _ => .bl i
theorem d_str {i j pos} : PD X (.Constant (.str i) j pos) (pC (.str i)) := d_c pe_str fun _ _ => .str i
theorem d_non {j pos} : PD X (.Constant .none j pos) (pC .non) := d_c pe_non fun _ _ => .non
def pNil : PAs := fun _ k => k []
def pCons (p : PX) (q : PAs) : PAs := fun env k => p env fun r => q env fun rs => k (r :: rs)
theorem da_nil : PDA X [] pNil := ⟨PA.weak pa_nil fun σ H Q ⟨S, B, env, sr, q⟩ => q S B [] H [] (Gro.refl sr.sb sr.bh) .nil, fun env P Q f h => f _ h⟩
theorem da_cons {p : PX} {q : PAs} (h : PD X e p) (hs : PDA X es q) (hst : starEach (e :: es) X.env = (false, eval e X.env) :: starEach es X.env := by rfl) : PDA X (e :: es) (pCons p q) := by
  refine ⟨PA.weak (pa_cons h.run hs.run hst) fun σ H Q ⟨S, B, env, sr, z⟩ => ?_, fun env P Q f z => h.mono env (fun r z => hs.mono env (fun rs z => f _ z) z) z⟩
  refine ⟨S, B, env, sr, h.mono env (fun r z S1 B1 v H1 g1 r1 => ?_) z⟩
  refine ⟨S1, B1, env, sr.gro g1, hs.mono env (fun rs z S2 B2 vs H2 G g2 r2 => ?_) z⟩
  cases r with
  | va t =>
    obtain ⟨F, o, d⟩ := r1
    refine z S2 B2 (v :: vs) H2 (F ++ G) (g1.trans g2) (.consT (o.mono g2.e.s fun p hp => let ⟨_, e, _⟩ := o.dom p hp; (g2.keeps e).1) (fun p hp => ⟨(d p hp).1, let ⟨_, e, _⟩ := o.dom p hp; (g2.keeps e).2.1 (d p hp).2⟩) (r2.early g1.h) fun p hp hg => ?_)
    obtain ⟨u, e, _⟩ := o.dom p hp
    obtain ⟨_, _, e2, _⟩ := r2.dom p hg
    rw [e] at e2
    cases e2
  | bo i π =>
    obtain ⟨v0, e0, a⟩ := r1
    exact z S2 B2 (v :: vs) H2 G (g1.trans g2) (.consB e0 (a.mono g2.h) (r2.early g1.h))
end
end PL

/-! The pure layer, part 2: operators, tests, displays, built-in calls. -/
namespace PL
open PySem L2

/-! ### operators whose result is no object -/
/-- d is no object: it is represented everywhere -/
def RepA (v : V) (d : D) : Prop := ∀ K S, Rep K S v d
def Sc2 (K : PySem.W.Frag) (r : R2) (g : D → D → (D → Prop) → Prop) : Prop :=
  ∀ (H : Hp) (x y : V) (d e : D) (k : D → Prop) (Q : VK), Rep K H x d → Rep K H y e → g d e k → (∀ v a, RepA v a → k a → Q v H) → r x y H Q
abbrev MonoG {α β : Type} (g : α → α → (β → Prop) → Prop) : Prop := ∀ (x y : α) {P Q : β → Prop}, (∀ b, P b → Q b) → g x y P → g x y Q
def p2 (g : D → D → (D → Prop) → Prop) (pa pb : PX) : PX := fun env k => pa env fun ra => pb env fun rb => ∃ a b, ra.tr env = some a ∧ rb.tr env = some b ∧ g a.er b.er fun d => k (.va (.s d))
section
variable {X : Cx} {a b c e : Expr} {es : List Expr} {pos : Pos} {pa pb pc p : PX}
theorem two {r : R2} {g : D → D → (D → Prop) → Prop} (sc : Sc2 X.K r g) (mg : MonoG g) (ha : PD X a pa) (hb : PD X b pb) (σ : L2.St) (H : Hp) (Q : VK) (h : tD X.K (p2 g pa pb) σ H Q) : tOp r (tD X.K pa) (tD X.K pb) σ H Q := by
  obtain ⟨S, B, env, sr, q⟩ := h
  refine ⟨S, B, env, sr, ha.mono env (fun ra q S1 B1 v1 H1 g1 r1 => ?_) q⟩
  refine ⟨S1, B1, env, sr.gro g1, hb.mono env (fun rb q S2 B2 v2 H2 g2 r2 => ?_) q⟩
  obtain ⟨ta, tb, ea, eb, q⟩ := q
  have sr2 := (sr.gro g1).gro g2
  exact sc H2 v1 v2 _ _ _ _ ((r1.gro g1.h g2).rep sr2 ea) (r2.rep sr2 eb) q fun v d rd q => q S2 B2 v H2 (g1.trans g2) (RR.sc (rd _ _))
theorem two_mono {g : D → D → (D → Prop) → Prop} (mg : MonoG g) (ha : PD X a pa) (hb : PD X b pb) : Mono (p2 g pa pb) := fun env P Q f h =>
  ha.mono env (fun ra h => hb.mono env (fun rb ⟨ta, tb, ea, eb, q⟩ => ⟨ta, tb, ea, eb, mg _ _ (fun d q => f _ q) q⟩) h) h
theorem d_op {op : Operator} {r : R2} {g : D → D → (D → Prop) → Prop} (ho : OpR X (binaryOp op) r) (sc : Sc2 X.K r g) (mg : MonoG g) (ha : PD X a pa) (hb : PD X b pb) : PD X (.BinOp a op b pos) (p2 g pa pb) :=
  ⟨PE.weak (pe_op ho ha.run hb.run) (two sc mg ha hb), two_mono mg ha hb⟩
theorem d_cmp {op : CmpOp} {r : R2} {g : D → D → (D → Prop) → Prop} (ho : OpR X (compareOp op) r) (sc : Sc2 X.K r g) (mg : MonoG g) (ha : PD X a pa) (hb : PD X b pb) (hm : behindInMarks op b = false) : PD X (.Compare a [op] [b] pos) (p2 g pa pb) :=
  ⟨PE.weak (pe_cmpR ho ha.run hb.run hm) (two sc mg ha hb), two_mono mg ha hb⟩
/-- as a test -/
def p2T (g : D → D → (D → Prop) → Prop) (pa pb : PX) : PB := fun env k => pa env fun ra => pb env fun rb => ∃ a b, ra.tr env = some a ∧ rb.tr env = some b ∧ g a.er b.er fun d => ∃ c, d = .bl c ∧ k c
theorem t_cmp {op : CmpOp} {r : R2} {g : D → D → (D → Prop) → Prop} (ho : OpR X (compareOp op) r) (sc : Sc2 X.K r g) (mg : MonoG g) (ha : PD X a pa) (hb : PD X b pb) (hm : behindInMarks op b = false) : PDT X (.Compare a [op] [b] pos) (p2T g pa pb) := by
  refine ⟨PT.weak (pt_cmpR ho ha.run hb.run hm) fun σ H Q ⟨S, B, env, sr, q⟩ => ?_, fun env P Q f h => ?_⟩
  · refine two sc mg ha hb σ H _ ⟨S, B, env, sr, ha.mono env (fun ra q => hb.mono env (fun rb ⟨ta, tb, ea, eb, q⟩ => ⟨ta, tb, ea, eb, mg _ _ (fun d ⟨c, e, q⟩ => ?_) q⟩) q) q⟩
    subst e
    intro S' B' v H' g r
    obtain ⟨F, o, _⟩ := r
    cases o with
    | s o =>
      cases o
      exact ⟨c, rfl, q S' B' H' g⟩
  · exact ha.mono env (fun ra h => hb.mono env (fun rb ⟨ta, tb, ea, eb, q⟩ => ⟨ta, tb, ea, eb, mg _ _ (fun d ⟨c, e, q⟩ => ⟨c, e, f _ q⟩) q⟩) h) h
end

theorem repA_int (i : Int) : RepA (.int i) (.int i) := fun _ _ => .int i
theorem repA_bl (i : Bool) : RepA (.bl i) (.bl i) := fun _ _ => .bl i
theorem repA_str (i : Str) : RepA (.str i) (.str i) := fun _ _ => .str i
theorem repA_non : RepA .non .non := fun _ _ => .non

/-! ### arithmetic -/
def gSubI : D → D → (D → Prop) → Prop
  | .int i, .int j, k => k (.int (i - j))
  | _, _, _ => False
def gDiv : D → D → (D → Prop) → Prop
  | .int i, .int j, k => (0 < j ∧ j ≤ 4611686018427387904) ∧ k (.int (i / j))
  | _, _, _ => False
def gMod : D → D → (D → Prop) → Prop
  | .int i, .int j, k => 0 < j ∧ k (.int (i % j))
  | _, _, _ => False
def gPow : D → D → (D → Prop) → Prop
  | .int i, .int j, k => (0 ≤ j ∧ j ≤ 1000 ∧ -18446744073709551616 < i ∧ i < 18446744073709551616) ∧ k (.int (i ^ j.toNat))
  | _, _, _ => False
theorem mono_sub : MonoG gSubI := fun x y P Q f h => by unfold gSubI at h ⊢; split <;> simp_all
theorem mono_div : MonoG gDiv := fun x y P Q f h => by unfold gDiv at h ⊢; split <;> simp_all
theorem mono_mod : MonoG gMod := fun x y P Q f h => by unfold gMod at h ⊢; split <;> simp_all
theorem mono_pow : MonoG gPow := fun x y P Q f h => by unfold gPow at h ⊢; split <;> simp_all
section
variable {K : PySem.W.Frag}
theorem sc_sub : Sc2 K (rI0 fun i j => .int (i - j)) gSubI := fun H x y d e k Q hx hy h q => by
  cases d <;> try exact h.elim
  cases e <;> try exact h.elim
  cases hx
  cases hy
  exact ⟨_, _, rfl, rfl, q _ _ (repA_int _) h⟩
theorem sc_mod : Sc2 K (rI (fun _ j => 0 < j) fun i j => .int (i % j)) gMod := fun H x y d e k Q hx hy h q => by
  cases d <;> try exact h.elim
  cases e <;> try exact h.elim
  cases hx
  cases hy
  exact ⟨_, _, rfl, rfl, h.1, q _ _ (repA_int _) h.2⟩
theorem sc_div : Sc2 K (rI CDivW fun i j => .int (i / j)) gDiv := fun H x y d e k Q hx hy h q => by
  cases d <;> try exact h.elim
  cases e <;> try exact h.elim
  rename_i i j
  cases hx
  cases hy
  obtain ⟨⟨h1, h2⟩, h⟩ := h
  exact ⟨_, _, rfl, rfl, wide_div (b := 63) h1 (by omega) (by decide) (by decide), q _ _ (repA_int _) h⟩
theorem sc_pow : Sc2 K (rI CPow fun i j => .int (i ^ j.toNat)) gPow := fun H x y d e k Q hx hy h q => by
  cases d <;> try exact h.elim
  cases e <;> try exact h.elim
  rename_i i j
  cases hx
  cases hy
  obtain ⟨⟨h1, h2, h3, h4⟩, h⟩ := h
  exact ⟨_, _, rfl, rfl, ⟨h1, by omega, by omega⟩, q _ _ (repA_int _) h⟩
end

/-! ### comparisons -/
mutual
def D.py : D → PyData
  | .non => .none
  | .bl b => .bool b
  | .int i => .int i
  | .str x => .str x
  | .node sh ks => match sh with
    | .lst => .list (pys ks)
    | .tup => .tuple (pys ks)
    | _ => .dict []
def pys : List D → List PyData
  | [] => []
  | d :: ds => d.py :: pys ds
end
theorem pys_map : ∀ ds : List D, pys ds = ds.map D.py
  | [] => rfl
  | d :: ds => by show d.py :: pys ds = _; rw [pys_map ds]; rfl
/-! plain data of depth at most n: None, bools, ints, texts, lists and tuples of such -/
mutual
def shp : Nat → D → Bool
  | _, .non => true
  | _, .bl _ => true
  | _, .int _ => true
  | _, .str x => PyData.canLay0 (.str x)
  | n, .node sh ks => match sh, n with
    | .lst, n + 1 => shpL n ks
    | .tup, n + 1 => shpL n ks
    | _, _ => false
def shpL : Nat → List D → Bool
  | _, [] => true
  | n, d :: ds => shp n d && shpL n ds
end
theorem shpL_all (n : Nat) : ∀ ds : List D, shpL n ds = ds.all (shp n)
  | [] => rfl
  | d :: ds => by show (shp n d && shpL n ds) = _; rw [shpL_all n ds]; rfl
mutual
theorem shp_py : ∀ (d : D) (n : Nat), shp n d = true → PyData.canLay0 d.py = true ∧ d.py.depth ≤ n
  | .non, n, _ => ⟨rfl, Nat.zero_le _⟩
  | .bl _, n, _ => ⟨rfl, Nat.zero_le _⟩
  | .int _, n, _ => ⟨rfl, Nat.zero_le _⟩
  | .str x, n, h => ⟨by simpa [shp, D.py] using h, Nat.zero_le _⟩
  | .node .lst ks, 0, h => by simp [shp] at h
  | .node .lst ks, n + 1, h => by
    obtain ⟨a, b⟩ := shpL_py ks n (by simpa [shp] using h)
    refine ⟨?_, ?_⟩
    · show PyData.canLay0 (.list (pys ks)) = true
      simpa [PyData.canLay0] using a
    · show PyData.depth (.list (pys ks)) ≤ n + 1
      simp only [PyData.depth]
      omega
  | .node .tup ks, 0, h => by simp [shp] at h
  | .node .tup ks, n + 1, h => by
    obtain ⟨a, b⟩ := shpL_py ks n (by simpa [shp] using h)
    refine ⟨?_, ?_⟩
    · show PyData.canLay0 (.tuple (pys ks)) = true
      simpa [PyData.canLay0] using a
    · show PyData.depth (.tuple (pys ks)) ≤ n + 1
      simp only [PyData.depth]
      omega
  | .node .ro ks, n, h => by simp [shp] at h
  | .node (.dK _) ks, n, h => by simp [shp] at h
  | .node (.dT _) ks, n, h => by simp [shp] at h
  | .node (.obj _ _) ks, n, h => by simp [shp] at h
theorem shpL_py : ∀ (ds : List D) (n : Nat), shpL n ds = true → PyData.canLayAll0 (pys ds) = true ∧ PyData.depthAll (pys ds) ≤ n
  | [], n, _ => ⟨rfl, Nat.zero_le _⟩
  | d :: ds, n, h => by
    have h' : shp n d = true ∧ shpL n ds = true := by simpa [shpL] using h
    obtain ⟨a, b⟩ := shp_py d n h'.1
    obtain ⟨a', b'⟩ := shpL_py ds n h'.2
    refine ⟨?_, ?_⟩
    · show PyData.canLayAll0 (d.py :: pys ds) = true
      simp [PyData.canLayAll0, a, a']
    · show PyData.depthAll (d.py :: pys ds) ≤ n
      simp only [PyData.depthAll]
      omega
end
theorem shaped_of {d : D} (h : shp 64 d = true) : SeqAt.shaped d.py = true := by
  obtain ⟨a, b⟩ := shp_py d 64 h
  unfold SeqAt.shaped
  rw [a]
  simpa using b
mutual
theorem Rep.dp {K : PySem.W.Frag} {H : Hp} : ∀ (d : D) (v : V) (n : Nat), Rep K H v d → shp n d = true → Dp K H v d.py
  | .non, _, _, h, _ => by cases h; exact .non
  | .bl _, _, _, h, _ => by cases h; exact .bl _
  | .int _, _, _, h, _ => by cases h; exact .int _
  | .str _, _, _, h, _ => by cases h; exact .str _
  | .node .lst ks, _, 0, h, q => by simp [shp] at q
  | .node .tup ks, _, 0, h, q => by simp [shp] at q
  | .node .lst ks, _, n + 1, h, q => by
    cases h with
    | node h1 h2 h3 => exact .lst (SqL.of h1) (RepL.dp ks _ n h3 (by simpa [shp] using q))
  | .node .tup ks, _, n + 1, h, q => by
    cases h with
    | node h1 h2 h3 => exact .tup (SqT.of h1) (RepL.dp ks _ n h3 (by simpa [shp] using q))
  | .node .ro ks, _, n, h, q => by simp [shp] at q
  | .node (.dK _) ks, _, n, h, q => by simp [shp] at q
  | .node (.dT _) ks, _, n, h, q => by simp [shp] at q
  | .node (.obj _ _) ks, _, n, h, q => by simp [shp] at q
theorem RepL.dp {K : PySem.W.Frag} {H : Hp} : ∀ (ds : List D) (vs : List V) (n : Nat), RepL K H vs ds → shpL n ds = true → DpAll K H vs (pys ds)
  | [], _, _, h, _ => by cases h; exact .nil
  | d :: ds, _, n, h, q => by
    have q' : shp n d = true ∧ shpL n ds = true := by simpa [shpL] using q
    cases h with
    | cons h1 h2 => exact .cons (Rep.dp d _ n h1 q'.1) (RepL.dp ds _ n h2 q'.2)
end

def deq (d e : D) : Bool := PyData.eqv d.py e.py
def gEq : D → D → (D → Prop) → Prop
  | .int i, .int j, k => k (.bl (decide (i = j)))
  | .str x, .str y, k => k (.bl (decide (x = y)))
  | .bl x, .bl y, k => k (.bl (decide (x = y)))
  | d, e, k => (shp 64 d = true ∧ shp 64 e = true) ∧ k (.bl (deq d e))
def gNe : D → D → (D → Prop) → Prop
  | .int i, .int j, k => k (.bl (!decide (i = j)))
  | .str x, .str y, k => k (.bl (!decide (x = y)))
  | .bl x, .bl y, k => k (.bl (!decide (x = y)))
  | d, e, k => (shp 64 d = true ∧ shp 64 e = true) ∧ k (.bl (!deq d e))
def gCmp (f : Int → Int → Bool) : D → D → (D → Prop) → Prop
  | .int i, .int j, k => k (.bl (f i j))
  | _, _, _ => False
/-- a key -/
def D.key : D → Option Key
  | .int i => some (.inl i)
  | .str x => some (.inr x)
  | _ => none
def keysD : List D → Option (List Key)
  | [] => some []
  | d :: ds => match d.key, keysD ds with
    | some k, some ks => some (k :: ks)
    | _, _ => none
def D.keyT : D → Option (List Key)
  | .node .tup ds => keysD ds
  | _ => none
def memK {κ : Type} [DecidableEq κ] (ks : List κ) (k : κ) : Bool := ks.any fun x => decide (x = k)
def neg' (neg b : Bool) : Bool := if neg then !b else b
/-- x in a list, a tuple, a dict -/
def gIn (neg : Bool) : D → D → (D → Prop) → Prop
  | d, .node .lst es, k => (shp 64 d = true ∧ shpL 63 es = true) ∧ k (.bl (neg' neg (es.any fun e => deq e d)))
  | d, .node .tup es, k => (shp 64 d = true ∧ shpL 63 es = true) ∧ k (.bl (neg' neg (es.any fun e => deq e d)))
  | d, .node (.dK ks) _, k => ∃ key, d.key = some key ∧ k (.bl (neg' neg (memK ks key)))
  | d, .node (.dT ks) _, k => ∃ key, d.keyT = some key ∧ k (.bl (neg' neg (memK ks key)))
  | _, _, _ => False
theorem mono_eq : MonoG gEq := fun x y P Q f h => by unfold gEq at h ⊢; split <;> simp_all
theorem mono_ne : MonoG gNe := fun x y P Q f h => by unfold gNe at h ⊢; split <;> simp_all
theorem mono_cmp {g : Int → Int → Bool} : MonoG (gCmp g) := fun x y P Q f h => by unfold gCmp at h ⊢; split <;> simp_all
theorem mono_in {n : Bool} : MonoG (gIn n) := fun x y P Q f h => by
  unfold gIn at h
  split at h
  · exact ⟨h.1, f _ h.2⟩
  · exact ⟨h.1, f _ h.2⟩
  · obtain ⟨key, e, h⟩ := h
    exact ⟨key, e, f _ h⟩
  · obtain ⟨key, e, h⟩ := h
    exact ⟨key, e, f _ h⟩
  · exact h.elim
def rEqA (K : PySem.W.Frag) : R2 := fun x y H Q => rEq x y H Q ∨ rEqD K x y H Q
def rNeA (K : PySem.W.Frag) : R2 := fun x y H Q => rNe x y H Q ∨ rNeD K x y H Q
theorem sc_eq {K : PySem.W.Frag} : Sc2 K (rEqA K) gEq := fun H x y d e k Q hx hy h q => by
  unfold gEq at h
  split at h
  · cases hx; cases hy
    refine .inl ⟨rfl, ?_⟩
    have := q _ _ (repA_bl _) h
    simpa using this
  · cases hx; cases hy
    refine .inl ⟨rfl, ?_⟩
    have := q _ _ (repA_bl _) h
    simpa using this
  · cases hx; cases hy
    refine .inl ⟨rfl, ?_⟩
    have := q _ _ (repA_bl _) h
    simpa using this
  · obtain ⟨⟨h1, h2⟩, h⟩ := h
    exact .inr ⟨_, _, hx.dp _ _ _ h1, hy.dp _ _ _ h2, shaped_of h1, shaped_of h2, q _ _ (repA_bl _) h⟩
theorem sc_ne {K : PySem.W.Frag} : Sc2 K (rNeA K) gNe := fun H x y d e k Q hx hy h q => by
  unfold gNe at h
  split at h
  · cases hx; cases hy
    refine .inl ⟨rfl, ?_⟩
    have := q _ _ (repA_bl _) h
    simpa using this
  · cases hx; cases hy
    refine .inl ⟨rfl, ?_⟩
    have := q _ _ (repA_bl _) h
    simpa using this
  · cases hx; cases hy
    refine .inl ⟨rfl, ?_⟩
    have := q _ _ (repA_bl _) h
    simpa using this
  · obtain ⟨⟨h1, h2⟩, h⟩ := h
    exact .inr ⟨_, _, hx.dp _ _ _ h1, hy.dp _ _ _ h2, shaped_of h1, shaped_of h2, q _ _ (repA_bl _) h⟩
theorem sc_cmp {K : PySem.W.Frag} {f : Int → Int → Bool} : Sc2 K (rI0 fun i j => .bl (f i j)) (gCmp f) := fun H x y d e k Q hx hy h q => by
  cases d <;> try exact h.elim
  cases e <;> try exact h.elim
  cases hx
  cases hy
  exact ⟨_, _, rfl, rfl, q _ _ (repA_bl _) h⟩
/-- .. of lists and tuples of data -/
def rInA (neg : Bool) (K : PySem.W.Frag) : R2 := fun x y H Q => ∃ d ds, Dp K H x d ∧ (Dp K H y (.list ds) ∨ Dp K H y (.tuple ds)) ∧ SeqAt.shaped d = true ∧ PyData.canLayAll0 ds = true ∧ Q (.bl (neg' neg (ds.any fun z => PyData.eqv z d))) H
/-- .. of dicts -/
def rInK (neg : Bool) : R2 := fun y x H Q => ∃ a o, x = .ref a ∧ DGet H a y o ∧ Q (.bl (neg' neg o.isSome)) H
section
variable {X : Cx}
theorem op_inA (hu : X.A.units + 65 < cLine) : OpR X (compareOp .In) (rInA false X.K) := by
  intro pins s σ H x y v u Q I rx ry h
  obtain ⟨d, ds, hd, he, sd, se, q⟩ := h
  obtain ⟨as, r1⟩ := Dp.reads I d x v hd rx
  rcases he with he | he
  · obtain ⟨bs, r2⟩ := Dp.reads I (.list ds) y u he ry
    exact SeqAt.in_list_reads r2 r1 se (SeqAt.canLay_of_shaped sd) (PyProof.Rows.room_in_shaped sd hu) ⟨.bl _, H, I, rfl, q⟩
  · obtain ⟨bs, r2⟩ := Dp.reads I (.tuple ds) y u he ry
    exact SeqAt.in_tuple_reads r2 r1 se (SeqAt.canLay_of_shaped sd) (PyProof.Rows.room_in_shaped sd hu) ⟨.bl _, H, I, rfl, q⟩
theorem op_notInA (hu : X.A.units + 65 < cLine) : OpR X (compareOp .NotIn) (rInA true X.K) := by
  intro pins s σ H x y v u Q I rx ry h
  obtain ⟨d, ds, hd, he, sd, se, q⟩ := h
  obtain ⟨as, r1⟩ := Dp.reads I d x v hd rx
  rcases he with he | he
  · obtain ⟨bs, r2⟩ := Dp.reads I (.list ds) y u he ry
    exact SeqAt.notIn_list_reads r2 r1 se (SeqAt.canLay_of_shaped sd) (PyProof.Rows.room_in_shaped sd hu) ⟨.bl _, H, I, rfl, q⟩
  · obtain ⟨bs, r2⟩ := Dp.reads I (.tuple ds) y u he ry
    exact SeqAt.notIn_tuple_reads r2 r1 se (SeqAt.canLay_of_shaped sd) (PyProof.Rows.room_in_shaped sd hu) ⟨.bl _, H, I, rfl, q⟩
theorem op_inK (hu : X.A.units + 1 < cLine) : OpR X (compareOp .In) (rInK false) := by
  intro pins s σ H x y v u Q I rx ry h
  obtain ⟨a, o, rfl, g, q⟩ := h
  cases ry
  exact d_in hu I g rx fun s3 I3 => ⟨.bl _, H, I3, rfl, q⟩
theorem op_notInK (hu : X.A.units + 1 < cLine) : OpR X (compareOp .NotIn) (rInK true) := by
  intro pins s σ H x y v u Q I rx ry h
  obtain ⟨a, o, rfl, g, q⟩ := h
  cases ry
  exact d_notIn hu I g rx fun s3 I3 => ⟨.bl _, H, I3, rfl, q⟩
end
theorem key_rep {K : PySem.W.Frag} {H : Hp} {d : D} {v : V} {k : Key} (h : Rep K H v d) (e : d.key = some k) : v = kV k := by
  cases d <;> try (cases e)
  · cases h; rfl
  · cases h; rfl
theorem keys_rep {K : PySem.W.Frag} {H : Hp} : ∀ {ds : List D} {vs : List V} {ks : List Key}, RepL K H vs ds → keysD ds = some ks → vs = ks.map kV
  | [], _, _, h, e => by cases h; cases e; rfl
  | d :: ds, _, _, h, e => by
    cases h with
    | cons h1 h2 =>
      unfold keysD at e
      split at e
      · rename_i k ks e1 e2
        cases e
        rw [key_rep h1 e1, keys_rep h2 e2]
        rfl
      · cases e
theorem keyT_rep {K : PySem.W.Frag} {H : Hp} {d : D} {v : V} {k : List Key} (h : Rep K H v d) (e : d.keyT = some k) : ∃ b, v = .ref b ∧ H b = some (.tup (k.map kV)) := by
  unfold D.keyT at e
  split at e
  · cases h with
    | @node p sh vs ds h1 h2 h3 => exact ⟨p, rfl, by rw [← keys_rep h3 e]; exact h1⟩
  · cases e
theorem valV_some {κ : Type} [DecidableEq κ] : ∀ {ks : List κ} {vs : List V} {k : κ}, ks.length = vs.length → (valV (ks.zip vs) k).isSome = memK ks k
  | [], [], k, _ => rfl
  | [], _ :: _, _, h => by cases h
  | _ :: _, [], _, h => by cases h
  | a :: ks, v :: vs, k, h => by
    rw [List.zip_cons_cons]
    by_cases e : a = k
    · rw [valV_pos e]
      simp [e, memK]
    · rw [valV_neg e, valV_some (by simpa using h)]
      simp [e, memK]
theorem any_py (ds : List D) (d : D) : ((pys ds).any fun z => PyData.eqv z d.py) = ds.any fun e => deq e d := by
  rw [pys_map, List.any_map]
  rfl
def rInU (neg : Bool) (K : PySem.W.Frag) : R2 := fun x y H Q => rInA neg K x y H Q ∨ rInK neg x y H Q
theorem sc_in {K : PySem.W.Frag} {neg : Bool} : Sc2 K (rInU neg K) (gIn neg) := fun H x y d e k Q hx hy h q => by
  unfold gIn at h
  split at h
  · obtain ⟨⟨h1, h2⟩, h⟩ := h
    refine .inl ⟨_, _, hx.dp _ _ _ h1, .inl (hy.dp _ _ 64 (by simpa [shp] using h2)), shaped_of h1, (shpL_py _ _ h2).1, ?_⟩
    rw [any_py]
    exact q _ _ (repA_bl _) h
  · obtain ⟨⟨h1, h2⟩, h⟩ := h
    refine .inl ⟨_, _, hx.dp _ _ _ h1, .inr (hy.dp _ _ 64 (by simpa [shp] using h2)), shaped_of h1, (shpL_py _ _ h2).1, ?_⟩
    rw [any_py]
    exact q _ _ (repA_bl _) h
  · obtain ⟨key, e, h⟩ := h
    cases hy with
    | @node p sh vs ds h1 h2 h3 =>
      refine .inr ⟨p, _, rfl, .inl ⟨_, key, h1.2, key_rep hx e, rfl⟩, ?_⟩
      rw [valV_some h1.1]
      exact q _ _ (repA_bl _) h
  · obtain ⟨key, e, h⟩ := h
    cases hy with
    | @node p sh vs ds h1 h2 h3 =>
      obtain ⟨b, rfl, hb⟩ := keyT_rep hx e
      refine .inr ⟨p, _, rfl, .inr ⟨_, key, b, h1.2, rfl, hb, rfl⟩, ?_⟩
      rw [valV_some h1.1]
      exact q _ _ (repA_bl _) h
  · exact h.elim
/-- is None, is not None -/
def gIs (neg : Bool) : D → D → (D → Prop) → Prop
  | .non, .non, k => k (.bl (neg' neg true))
  | .int _, .non, k => k (.bl (neg' neg false))
  | .bl _, .non, k => k (.bl (neg' neg false))
  | .str _, .non, k => k (.bl (neg' neg false))
  | .node _ _, .non, k => k (.bl (neg' neg false))
  | _, _, _ => False
theorem mono_is {n : Bool} : MonoG (gIs n) := fun x y P Q f h => by unfold gIs at h ⊢; split <;> simp_all
theorem sc_isN {K : PySem.W.Frag} : Sc2 K (fun x y H Q => y = .non ∧ Q (.bl (decide (x = .non))) H) (gIs false) := fun H x y d e k Q hx hy h q => by
  cases e <;> try (cases d <;> exact h.elim)
  cases hy
  refine ⟨rfl, ?_⟩
  cases hx <;> exact q _ _ (repA_bl _) h
theorem sc_notN {K : PySem.W.Frag} : Sc2 K (fun x y H Q => y = .non ∧ Q (.bl (!decide (x = .non))) H) (gIs true) := fun H x y d e k Q hx hy h q => by
  cases e <;> try (cases d <;> exact h.elim)
  cases hy
  refine ⟨rfl, ?_⟩
  cases hx <;> exact q _ _ (repA_bl _) h

/-! ### the rules by their operators -/
section
variable {X : Cx} {a b c e : Expr} {es : List Expr} {pos : Pos} {pa pb pc p : PX} {k : Nat}
theorem d_sub (ha : PD X a pa) (hb : PD X b pb) : PD X (.BinOp a .Sub b pos) (p2 gSubI pa pb) := d_op op_sub sc_sub mono_sub ha hb
theorem d_mod (ha : PD X a pa) (hb : PD X b pb) : PD X (.BinOp a .Mod b pos) (p2 gMod pa pb) := d_op op_mod sc_mod mono_mod ha hb
theorem d_div (ha : PD X a pa) (hb : PD X b pb) : PD X (.BinOp a .FloorDiv b pos) (p2 gDiv pa pb) := d_op op_fdivW sc_div mono_div ha hb
theorem d_pow (ha : PD X a pa) (hb : PD X b pb) : PD X (.BinOp a .Pow b pos) (p2 gPow pa pb) := d_op op_pow sc_pow mono_pow ha hb
theorem hu64 (hr : Room k X.A) : X.A.units + 64 < cLine := hr.units
theorem hu65 (hr : Room k X.A) : X.A.units + 65 < cLine := by have := hr.un; omega
theorem hu1 (hr : Room k X.A) : X.A.units + 1 < cLine := by have := hr.un; omega
theorem d_eq (hr : Room k X.A) (ha : PD X a pa) (hb : PD X b pb) : PD X (.Compare a [.Eq] [b] pos) (p2 gEq pa pb) := d_cmp (op_eq.or (op_eqD (hu64 hr))) sc_eq mono_eq ha hb (nomark _)
theorem d_ne (hr : Room k X.A) (ha : PD X a pa) (hb : PD X b pb) : PD X (.Compare a [.NotEq] [b] pos) (p2 gNe pa pb) := d_cmp (op_ne.or (op_neD (hu64 hr))) sc_ne mono_ne ha hb (nomark _)
theorem d_lt (ha : PD X a pa) (hb : PD X b pb) : PD X (.Compare a [.Lt] [b] pos) (p2 (gCmp fun i j => decide (i < j)) pa pb) := d_cmp op_lt sc_cmp mono_cmp ha hb (nomark _)
theorem d_le (ha : PD X a pa) (hb : PD X b pb) : PD X (.Compare a [.LtE] [b] pos) (p2 (gCmp fun i j => decide (i ≤ j)) pa pb) := d_cmp op_le sc_cmp mono_cmp ha hb (nomark _)
theorem d_gt (ha : PD X a pa) (hb : PD X b pb) : PD X (.Compare a [.Gt] [b] pos) (p2 (gCmp fun i j => decide (j < i)) pa pb) := d_cmp op_gt sc_cmp mono_cmp ha hb (nomark _)
theorem d_ge (ha : PD X a pa) (hb : PD X b pb) : PD X (.Compare a [.GtE] [b] pos) (p2 (gCmp fun i j => decide (j ≤ i)) pa pb) := d_cmp op_ge sc_cmp mono_cmp ha hb (nomark _)
theorem d_in_ (hr : Room k X.A) (ha : PD X a pa) (hb : PD X b pb) (hm : behindInMarks .In b = false := by rfl) : PD X (.Compare a [.In] [b] pos) (p2 (gIn false) pa pb) := d_cmp ((op_inA (hu65 hr)).or (op_inK (hu1 hr))) sc_in mono_in ha hb hm
theorem d_nin (hr : Room k X.A) (ha : PD X a pa) (hb : PD X b pb) (hm : behindInMarks .NotIn b = false := by rfl) : PD X (.Compare a [.NotIn] [b] pos) (p2 (gIn true) pa pb) := d_cmp ((op_notInA (hu65 hr)).or (op_notInK (hu1 hr))) sc_in mono_in ha hb hm
theorem d_is (ha : PD X a pa) (hb : PD X b pb) : PD X (.Compare a [.Is] [b] pos) (p2 (gIs false) pa pb) := d_cmp op_isN sc_isN mono_is ha hb (nomark _)
theorem d_isnt (ha : PD X a pa) (hb : PD X b pb) : PD X (.Compare a [.IsNot] [b] pos) (p2 (gIs true) pa pb) := d_cmp op_notN sc_notN mono_is ha hb (nomark _)
theorem t_eq (hr : Room k X.A) (ha : PD X a pa) (hb : PD X b pb) : PDT X (.Compare a [.Eq] [b] pos) (p2T gEq pa pb) := t_cmp (op_eq.or (op_eqD (hu64 hr))) sc_eq mono_eq ha hb (nomark _)
theorem t_ne (hr : Room k X.A) (ha : PD X a pa) (hb : PD X b pb) : PDT X (.Compare a [.NotEq] [b] pos) (p2T gNe pa pb) := t_cmp (op_ne.or (op_neD (hu64 hr))) sc_ne mono_ne ha hb (nomark _)
theorem t_lt (ha : PD X a pa) (hb : PD X b pb) : PDT X (.Compare a [.Lt] [b] pos) (p2T (gCmp fun i j => decide (i < j)) pa pb) := t_cmp op_lt sc_cmp mono_cmp ha hb (nomark _)
theorem t_le (ha : PD X a pa) (hb : PD X b pb) : PDT X (.Compare a [.LtE] [b] pos) (p2T (gCmp fun i j => decide (i ≤ j)) pa pb) := t_cmp op_le sc_cmp mono_cmp ha hb (nomark _)
theorem t_gt (ha : PD X a pa) (hb : PD X b pb) : PDT X (.Compare a [.Gt] [b] pos) (p2T (gCmp fun i j => decide (j < i)) pa pb) := t_cmp op_gt sc_cmp mono_cmp ha hb (nomark _)
theorem t_ge (ha : PD X a pa) (hb : PD X b pb) : PDT X (.Compare a [.GtE] [b] pos) (p2T (gCmp fun i j => decide (j ≤ i)) pa pb) := t_cmp op_ge sc_cmp mono_cmp ha hb (nomark _)
theorem t_in_ (hr : Room k X.A) (ha : PD X a pa) (hb : PD X b pb) (hm : behindInMarks .In b = false := by rfl) : PDT X (.Compare a [.In] [b] pos) (p2T (gIn false) pa pb) := t_cmp ((op_inA (hu65 hr)).or (op_inK (hu1 hr))) sc_in mono_in ha hb hm
theorem t_nin (hr : Room k X.A) (ha : PD X a pa) (hb : PD X b pb) (hm : behindInMarks .NotIn b = false := by rfl) : PDT X (.Compare a [.NotIn] [b] pos) (p2T (gIn true) pa pb) := t_cmp ((op_notInA (hu65 hr)).or (op_notInK (hu1 hr))) sc_in mono_in ha hb hm
theorem t_is (ha : PD X a pa) (hb : PD X b pb) : PDT X (.Compare a [.Is] [b] pos) (p2T (gIs false) pa pb) := t_cmp op_isN sc_isN mono_is ha hb (nomark _)
theorem t_isnt (ha : PD X a pa) (hb : PD X b pb) : PDT X (.Compare a [.IsNot] [b] pos) (p2T (gIs true) pa pb) := t_cmp op_notN sc_notN mono_is ha hb (nomark _)

/-! ### tests -/
/-- the truth of a value -/
def gTru : D → Option Bool
  | .non => some false
  | .bl b => some b
  | .int i => some (i != 0)
  | .str x => some (x.length != 0)
  | .node .lst ds => some (!ds.isEmpty)
  | .node .tup ds => some (!ds.isEmpty)
  | _ => none
def pTru (p : PX) : PB := fun env k => p env fun r => ∃ t c, r.tr env = some t ∧ gTru t.er = some c ∧ k c
/-- of a value that is True or False -/
def pBl (p : PX) : PB := fun env k => p env fun r => ∃ c, r = .va (.s (.bl c)) ∧ k c
theorem t_val (ha : PD X a pa) (he : ∀ whole, isTrue a X.env whole = (do let v ← whole; standAt a.pos; holding [v] (truthy v)) := by intro _; rfl) : PDT X a (pBl pa) := by
  refine ⟨PT.weak (pt_val ha.run he) fun σ H Q ⟨S, B, env, sr, q⟩ => ⟨S, B, env, sr, ha.mono env (fun r ⟨c, e, q⟩ S1 B1 v H1 g r1 => ?_) q⟩, fun env P Q f h => ha.mono env (fun r ⟨c, e, q⟩ => ⟨c, e, f _ q⟩) h⟩
  subst e
  obtain ⟨F, o, _⟩ := r1
  cases o with
  | s o =>
    cases o
    exact ⟨c, rfl, q S1 B1 H1 g⟩
def pAndT (p q : PB) : PB := fun env k => p env fun c => if c = true then q env k else k false
def pOrT (p q : PB) : PB := fun env k => p env fun c => if c = true then k true else q env k
def pNotT (p : PB) : PB := fun env k => p env fun c => k (!c)
structure PDW (X : Cx) (e : Expr) (p : PB) : Prop where
  run : PW X e (tDT X.K p)
  mono : MonoB p
theorem PW.weak {t t' : TT} (h : PW X e t) (w : ∀ σ H Q, t' σ H Q → t σ H Q) : PW X e t' := ⟨fun wh pins s σ H Q I q => h.run wh pins s σ H Q I (w _ _ _ q)⟩
variable {p1 p2' : PB}
theorem tw (h : PDW X e p1) : PDT X e p1 := ⟨h.run.pt, h.mono⟩
theorem tw_and1 (h : PDT X a p1) : PDW X (.BoolOp .And [a] pos) p1 := ⟨pw_and1 h.run, h.mono⟩
theorem tw_or1 (h : PDT X a p1) : PDW X (.BoolOp .Or [a] pos) p1 := ⟨pw_or1 h.run, h.mono⟩
theorem tw_and (ha : PDT X a p1) (hb : PDW X (.BoolOp .And (b :: es) pos) p2') : PDW X (.BoolOp .And (a :: b :: es) pos) (pAndT p1 p2') := by
  refine ⟨PW.weak (pw_and ha.run hb.run) fun σ H Q ⟨S, B, env, sr, q⟩ => ⟨S, B, env, sr, ha.mono env (fun c q S1 B1 H1 g => ?_) q⟩, fun env P Q f h => ha.mono env (fun c h => ?_) h⟩
  · cases c with
    | true => exact ⟨S1, B1, env, sr.gro g, hb.mono env (fun c2 q S2 B2 H2 g2 => q S2 B2 H2 (g.trans g2)) q⟩
    | false => exact q S1 B1 H1 g
  · cases c with
    | true => exact hb.mono env f h
    | false => exact f _ h
theorem tw_or (ha : PDT X a p1) (hb : PDW X (.BoolOp .Or (b :: es) pos) p2') : PDW X (.BoolOp .Or (a :: b :: es) pos) (pOrT p1 p2') := by
  refine ⟨PW.weak (pw_or ha.run hb.run) fun σ H Q ⟨S, B, env, sr, q⟩ => ⟨S, B, env, sr, ha.mono env (fun c q S1 B1 H1 g => ?_) q⟩, fun env P Q f h => ha.mono env (fun c h => ?_) h⟩
  · cases c with
    | false => exact ⟨S1, B1, env, sr.gro g, hb.mono env (fun c2 q S2 B2 H2 g2 => q S2 B2 H2 (g.trans g2)) q⟩
    | true => exact q S1 B1 H1 g
  · cases c with
    | false => exact hb.mono env f h
    | true => exact f _ h
theorem t_not (ha : PDT X a p1) : PDT X (.UnaryOp .Not a pos) (pNotT p1) :=
  ⟨PT.weak (pt_not ha.run) fun σ H Q ⟨S, B, env, sr, q⟩ => ⟨S, B, env, sr, ha.mono env (fun c q S1 B1 H1 g => q S1 B1 H1 g) q⟩, fun env P Q f h => ha.mono env (fun c h => f _ h) h⟩
/-! .. as values: all but the last True or False -/
def pAndV (p q : PX) : PX := fun env k => p env fun r => ∃ c, r = .va (.s (.bl c)) ∧ if c = true then q env k else k (.va (.s (.bl false)))
def pOrV (p q : PX) : PX := fun env k => p env fun r => ∃ c, r = .va (.s (.bl c)) ∧ if c = true then k (.va (.s (.bl true))) else q env k
def pNotV (p : PX) : PX := fun env k => p env fun r => ∃ c, r = .va (.s (.bl c)) ∧ k (.va (.s (.bl (!c))))
theorem d_one {op} (h : PD X a p) : PD X (.BoolOp op [a] pos) p := ⟨pe_one h.run, h.mono⟩
theorem RR.bl {K : PySem.W.Frag} {S' B' H H' : Hp} {σ : L2.St} {v : V} {c : Bool} (h : RR K S' B' H H' σ v (.va (.s (.bl c)))) : v = .bl c := by
  obtain ⟨F, o, _⟩ := h
  cases o with
  | s o => cases o; rfl
theorem d_and (ha : PD X a pa) (hb : PD X (.BoolOp .And (b :: es) pos) pb) : PD X (.BoolOp .And (a :: b :: es) pos) (pAndV pa pb) := by
  refine ⟨PE.weak (pe_and ha.run hb.run) fun σ H Q ⟨S, B, env, sr, q⟩ => ⟨S, B, env, sr, ha.mono env (fun r ⟨c, e, q⟩ S1 B1 v H1 g r1 => ⟨c, ?_, ?_⟩) q⟩, fun env P Q f h => ha.mono env (fun r ⟨c, e, h⟩ => ⟨c, e, ?_⟩) h⟩
  · subst e; exact r1.bl
  · cases c with
    | true => exact ⟨S1, B1, env, sr.gro g, hb.mono env (fun c2 q S2 B2 v2 H2 g2 r2 => q S2 B2 v2 H2 (g.trans g2) (r2.early g.h)) q⟩
    | false => exact q S1 B1 _ H1 g (RR.sc (.bl _))
  · cases c with
    | true => exact hb.mono env f h
    | false => exact f _ h
theorem d_or (ha : PD X a pa) (hb : PD X (.BoolOp .Or (b :: es) pos) pb) : PD X (.BoolOp .Or (a :: b :: es) pos) (pOrV pa pb) := by
  refine ⟨PE.weak (pe_or ha.run hb.run) fun σ H Q ⟨S, B, env, sr, q⟩ => ⟨S, B, env, sr, ha.mono env (fun r ⟨c, e, q⟩ S1 B1 v H1 g r1 => ⟨c, ?_, ?_⟩) q⟩, fun env P Q f h => ha.mono env (fun r ⟨c, e, h⟩ => ⟨c, e, ?_⟩) h⟩
  · subst e; exact r1.bl
  · cases c with
    | false => exact ⟨S1, B1, env, sr.gro g, hb.mono env (fun c2 q S2 B2 v2 H2 g2 r2 => q S2 B2 v2 H2 (g.trans g2) (r2.early g.h)) q⟩
    | true => exact q S1 B1 _ H1 g (RR.sc (.bl _))
  · cases c with
    | false => exact hb.mono env f h
    | true => exact f _ h
theorem d_not (ha : PD X a pa) : PD X (.UnaryOp .Not a pos) (pNotV pa) := by
  refine ⟨PE.weak (pe_not ha.run) fun σ H Q ⟨S, B, env, sr, q⟩ => ⟨S, B, env, sr, ha.mono env (fun r ⟨c, e, q⟩ S1 B1 v H1 g r1 => ⟨c, ?_, ?_⟩) q⟩, fun env P Q f h => ha.mono env (fun r ⟨c, e, h⟩ => ⟨c, e, f _ h⟩) h⟩
  · subst e; exact r1.bl
  · exact q S1 B1 _ H1 g (RR.sc (.bl _))
/-- a if t else b -/
def pIfE (t : PB) (p q : PX) : PX := fun env k => t env fun c => if c = true then p env k else q env k
theorem d_if (hc : PDT X c p1) (ha : PD X a pa) (hb : PD X b pb) : PD X (.IfExp c a b pos) (pIfE p1 pa pb) := by
  refine ⟨PE.weak (pe_ifExp hc.run ha.run hb.run) fun σ H Q ⟨S, B, env, sr, q⟩ => ⟨S, B, env, sr, hc.mono env (fun c q S1 B1 H1 g => ?_) q⟩, fun env P Q f h => hc.mono env (fun c h => ?_) h⟩
  · cases c with
    | true => exact ⟨S1, B1, env, sr.gro g, ha.mono env (fun c2 q S2 B2 v2 H2 g2 r2 => q S2 B2 v2 H2 (g.trans g2) (r2.early g.h)) q⟩
    | false => exact ⟨S1, B1, env, sr.gro g, hb.mono env (fun c2 q S2 B2 v2 H2 g2 r2 => q S2 B2 v2 H2 (g.trans g2) (r2.early g.h)) q⟩
  · cases c with
    | true => exact ha.mono env f h
    | false => exact hb.mono env f h
/-- -a -/
def pNeg (p : PX) : PX := fun env k => p env fun r => ∃ i, r = .va (.s (.int i)) ∧ k (.va (.s (.int (-i))))
theorem d_neg (ha : PD X a pa) : PD X (.UnaryOp .USub a pos) (pNeg pa) := by
  refine ⟨PE.weak (pe_un un_neg ha.run) fun σ H Q ⟨S, B, env, sr, q⟩ => ⟨S, B, env, sr, ha.mono env (fun r ⟨c, e, q⟩ S1 B1 v H1 g r1 => ?_) q⟩, fun env P Q f h => ha.mono env (fun r ⟨c, e, h⟩ => ⟨c, e, f _ h⟩) h⟩
  subst e
  obtain ⟨F, o, _⟩ := r1
  cases o with
  | s o =>
    cases o
    exact ⟨c, rfl, q S1 B1 _ H1 g (RR.sc (.int _))⟩
end
end PL

/-! The pure layer, part 3: expressions that make objects, subscripts, built-in calls. -/
namespace PL
open PySem L2

def T.isS : T → Bool
  | .s _ => true
  | .node _ _ => false
def T.flat : T → Bool
  | .s _ => true
  | .node _ ts => ts.all T.isS
def T.kids : T → Option (Shape × List T)
  | .s (.node sh ds) => some (sh, ds.map T.s)
  | .s _ => none
  | .node sh ts => some (sh, ts)
/-- a result whose items may be taken over: its own, or one of shared items -/
def R.mv (env : En) : R → Option T
  | .va t => some t
  | .bo i π => match look env i π with
    | some t => if t.flat = true then some t else none
    | none => none
theorem flat_map (ds : List D) : (ds.map T.s).all T.isS = true := by
  induction ds with
  | nil => rfl
  | cons d ds ih => simp [T.isS]
section
variable {K : PySem.W.Frag} {S B H S' B' H' S1 B1 H1 : Hp} {σ : L2.St} {env : En} {v : V} {r : R} {t : T} {F : List Addr}
theorem OwnL.flatF : ∀ {ts : List T} {vs : List V} {F : List Addr}, OwnL K S H vs ts F → ts.all T.isS = true → F = []
  | [], _, _, h, _ => by cases h; rfl
  | t :: ts, _, _, h, e => by
    cases h with
    | cons h1 h2 h3 =>
      simp only [List.all_cons, Bool.and_eq_true] at e
      cases t with
      | node sh ks => cases e.1
      | s d =>
        cases h1 with
        | s h1 => rw [OwnL.flatF h2 e.2]; rfl
theorem mv_bo {i : Nat} {π : List Nat} (e : (R.bo i π).mv env = some t) : look env i π = some t ∧ t.flat = true := by
  have e' : (match look env i π with
    | some t => if t.flat = true then some t else none
    | none => none) = some t := e
  cases q : look env i π with
  | none => rw [q] at e'; cases e'
  | some u =>
    rw [q] at e'
    by_cases hf : u.flat = true
    · simp only [hf, if_true] at e'
      cases e'
      exact ⟨rfl, hf⟩
    · simp [hf] at e'
theorem Own.flatT (o : Own K S H v t F) (h : t.flat = true) : F.tail = [] := by
  cases o with
  | s o => rfl
  | node h1 h2 h3 h4 h5 => exact OwnL.flatF h4 h
theorem RR.mvd (h : RR K S1 B1 H H1 σ v r) (sr : SR K S' B' H' σ env) (a : Ex H H1) (g : Gro S1 B1 H1 S' B' H') (e : r.mv env = some t) : ∃ F, Own K S' H' v t F ∧ ∀ p ∈ F.tail, H p = none ∧ B' p = none ∧ H1 p ≠ none := by
  cases r with
  | va u =>
    obtain ⟨F, o, q⟩ := h
    have e' : u = t := Option.some.inj e
    subst e'
    refine ⟨F, o.mono g.e.s fun p hp => let ⟨_, e, _⟩ := o.dom p hp; (g.keeps e).1, fun p hp => ?_⟩
    have hp := List.mem_of_mem_tail hp
    obtain ⟨ob, e1, _⟩ := o.dom p hp
    exact ⟨(q p hp).1, (g.keeps e1).2.1 (q p hp).2, by rw [e1]; exact fun z => nomatch z⟩
  | bo i π =>
    obtain ⟨h1, h2⟩ := mv_bo e
    obtain ⟨F, o, _⟩ := (h.gro a g).get sr h1
    refine ⟨F, o, fun p hp => ?_⟩
    rw [o.flatT h2] at hp
    cases hp
theorem OwnL.shared : ∀ {ds : List D} {vs : List V}, RepL K S vs ds → OwnL K S H vs (ds.map T.s) [] := OwnL.sh
theorem Own.kids {sh : Shape} {ts : List T} (o : Own K S H v t F) (e : Ex S H) (k : t.kids = some (sh, ts)) : ∃ p vs, v = .ref p ∧ NodeR K H p sh vs ∧ vs.length ≤ sizeLine ∧ OwnL K S H vs ts F.tail := by
  cases o with
  | @s v d h =>
    cases d <;> try (cases k)
    cases h with
    | @node p sh vs ds h1 h2 h3 => exact ⟨p, vs, rfl, h1.mono e, h2, OwnL.sh h3⟩
  | @node p o sh vs ts F h1 h2 h3 h4 h5 =>
    cases k
    exact ⟨p, vs, rfl, h2.read h1, h3, h4⟩
theorem OwnL.append : ∀ {ts us : List T} {vs ws : List V} {F G : List Addr}, OwnL K S H vs ts F → OwnL K S H ws us G → (∀ p ∈ F, p ∉ G) → OwnL K S H (vs ++ ws) (ts ++ us) (F ++ G)
  | [], _, _, _, _, _, h, g, _ => by cases h; exact g
  | t :: ts, _, _, _, _, _, h, g, d => by
    cases h with
    | @cons v vs _ _ F F2 h1 h2 h3 =>
      rw [List.append_assoc]
      refine .cons h1 (OwnL.append h2 g fun p hp => d p (List.mem_append_right _ hp)) fun p hp hq => ?_
      rcases List.mem_append.mp hq with hq | hq
      · exact h3 p hp hq
      · exact d p (List.mem_append_left _ hp) hq
theorem OwnL.nofr {ts : List T} {vs : List V} (h : OwnL K S H vs ts F) {p : Addr} (hp : H p = none) : p ∉ F := fun z => by
  obtain ⟨o, e, _⟩ := h.dom p z
  rw [hp] at e
  cases e
/-- a new list of these items -/
theorem own_new {ts : List T} {vs : List V} {p : Addr} (h : OwnL K S H vs ts F) (hp : H p = none) (hl : vs.length ≤ sizeLine) : Own K S (upd H p (.lst vs)) (.ref p) (.node .lst ts) (p :: F) := by
  have n := h.nofr hp
  exact .node upd_same rfl hl (h.mono (.refl _) fun q hq => upd_ne fun e => n (e ▸ hq)) n
/-- the footprint G frozen -/
theorem Gro.frz {G : List Addr} (g : Gro S B H S1 B1 H1) (h : ∀ p ∈ G, H p = none ∧ B1 p = none) : Gro S B H (joinF S1 H1 G) (joinF B1 H1 G) H1 := by
  have e1 : Ex S1 H1 := g.sb.trans g.bh
  refine ⟨g.h, ⟨g.e.s.trans (ex_joinF e1), g.e.b.trans (ex_joinF g.bh), fun p a b => ?_⟩, fun p a b => ?_, joinF_two g.sb, joinF_ex g.bh⟩
  · by_cases hp : p ∈ G
    · exact ex_none g.e.b (h p hp).2
    · rw [joinF_out hp] at a
      exact g.e.n p a b
  · by_cases hp : p ∈ G
    · exact (h p hp).1
    · rw [joinF_out hp] at a
      exact g.n p a b
theorem Gro.frz0 {G : List Addr} (sb : Ex S B) (bh : Ex B H) (h : ∀ p ∈ G, B p = none) : Ex S (joinF S H G) ∧ Ex (joinF S H G) (joinF B H G) ∧ Ex (joinF B H G) H := ⟨ex_joinF (sb.trans bh), joinF_two sb, joinF_ex bh⟩
end

/-! ### + -/
def gAddK : Option (Shape × List T) → Option (Shape × List T) → (T → Prop) → Prop
  | some (.lst, xs), some (.lst, ys), k => xs.length + ys.length ≤ sizeLine ∧ k (.node .lst (xs ++ ys))
  | some (.tup, xs), some (.tup, ys), k => xs.length + ys.length ≤ sizeLine ∧ k (.s (.node .tup (xs.map T.er ++ ys.map T.er)))
  | _, _, _ => False
def gAdd (a b : T) (k : T → Prop) : Prop := match a, b with
  | .s (.int i), .s (.int j) => k (.s (.int (i + j)))
  | .s (.str x), .s (.str y) => x.length + y.length ≤ sizeLine ∧ k (.s (.str (x ++ y)))
  | a, b => gAddK a.kids b.kids k
def gMulK : Option (Shape × List T) → Int → (T → Prop) → Prop
  | some (.lst, xs), n, k => (xs.all T.isS = true ∧ -9223372036854775808 ≤ n ∧ n < 9223372036854775808 ∧ xs.length * n.toNat ≤ sizeLine) ∧ k (.node .lst (List.replicate n.toNat xs).flatten)
  | _, _, _ => False
def gMul (a b : T) (k : T → Prop) : Prop := match a, b with
  | .s (.int i), .s (.int j) => ((-18446744073709551616 < i ∧ i < 18446744073709551616) ∨ (-18446744073709551616 < j ∧ j < 18446744073709551616)) ∧ k (.s (.int (i * j)))
  | a, .s (.int n) => gMulK a.kids n k
  | _, _ => False
theorem gAddK_mono (a b : Option (Shape × List T)) {P Q : T → Prop} (f : ∀ t, P t → Q t) (h : gAddK a b P) : gAddK a b Q := by
  unfold gAddK at h
  split at h
  · exact ⟨h.1, f _ h.2⟩
  · exact ⟨h.1, f _ h.2⟩
  · exact h.elim
theorem gAdd_mono (a b : T) {P Q : T → Prop} (f : ∀ t, P t → Q t) (h : gAdd a b P) : gAdd a b Q := by
  unfold gAdd at h ⊢
  split at h
  · exact f _ h
  · exact ⟨h.1, f _ h.2⟩
  · exact gAddK_mono _ _ f h
theorem gMulK_mono (a : Option (Shape × List T)) (n : Int) {P Q : T → Prop} (f : ∀ t, P t → Q t) (h : gMulK a n P) : gMulK a n Q := by
  unfold gMulK at h
  split at h
  · exact ⟨h.1, f _ h.2⟩
  · exact h.elim
theorem gMul_mono (a b : T) {P Q : T → Prop} (f : ∀ t, P t → Q t) (h : gMul a b P) : gMul a b Q := by
  unfold gMul at h ⊢
  split at h
  · exact ⟨h.1, f _ h.2⟩
  · exact gMulK_mono _ _ f h
  · exact h.elim
def pOp (g : T → T → (T → Prop) → Prop) (pa pb : PX) : PX := fun env k => pa env fun ra => pb env fun rb => ∃ a b, ra.mv env = some a ∧ rb.mv env = some b ∧ g a b fun t => k (.va t)
/-- what may have come with a result: within W, or new -/
structure Add2 (S B H S' B' H' : Hp) (W : Addr → Prop) : Prop where
  h : Ex H H'
  s : Ex S S'
  b : Ex B B'
  sb : Ex S' B'
  bh : Ex B' H'
  sn : ∀ p, S' p ≠ none → S p = none → W p ∨ H p = none
  bn : ∀ p, B' p ≠ none → B p = none → W p ∨ H p = none
/-- an operator by values over owned and shared operands -/
def OpOk (X : Cx) (r : R2) (g : T → T → (T → Prop) → Prop) : Prop :=
  ∀ (S B H : Hp) (x y : V) (a b : T) (Fa Fb : List Addr) (Q : VK) (k : T → Prop), Ex S B → Ex B H → Own X.K S H x a Fa → Own X.K S H y b Fb → (∀ p ∈ Fa.tail, p ∉ Fb.tail) → (∀ p ∈ Fa.tail, B p = none) → (∀ p ∈ Fb.tail, B p = none) → g a b k →
    (∀ (t : T) (S' B' : Hp) (v : V) (H' : Hp) (F : List Addr), Add2 S B H S' B' H' (fun p => p ∈ Fa.tail ∨ p ∈ Fb.tail) → Own X.K S' H' v t F →
      (∀ p ∈ F, ((p ∈ Fa.tail ∨ p ∈ Fb.tail) ∨ H p = none) ∧ B' p = none) → k t → Q v H') → r x y H Q
section
variable {X : Cx} {a b e : Expr} {pos : Pos} {pa pb p : PX}
theorem d_opT {op : Operator} {r : R2} {g : T → T → (T → Prop) → Prop} (ho : OpR X (binaryOp op) r) (ok : OpOk X r g) (mg : MonoG g) (ha : PD X a pa) (hb : PD X b pb) : PD X (.BinOp a op b pos) (pOp g pa pb) := by
  refine ⟨PE.weak (pe_op ho ha.run hb.run) fun σ H Q ⟨S, B, env, sr, q⟩ => ?_, fun env P Q f h => ha.mono env (fun ra h => hb.mono env (fun rb ⟨ta, tb, ea, eb, q⟩ => ⟨ta, tb, ea, eb, mg _ _ (fun t q => f _ q) q⟩) h) h⟩
  refine ⟨S, B, env, sr, ha.mono env (fun ra q S1 B1 v1 H1 g1 r1 => ?_) q⟩
  refine ⟨S1, B1, env, sr.gro g1, hb.mono env (fun rb q S2 B2 v2 H2 g2 r2 => ?_) q⟩
  obtain ⟨ta, tb, ea, eb, q⟩ := q
  have sr2 := (sr.gro g1).gro g2
  have g12 := g1.trans g2
  obtain ⟨Fa, oa, na⟩ := r1.mvd sr2 g1.h g2 ea
  obtain ⟨Fb, ob, nb⟩ := r2.mvd sr2 g2.h (Gro.refl g2.sb g2.bh) eb
  refine ok S2 B2 H2 v1 v2 ta tb Fa Fb Q _ g2.sb g2.bh oa ob (fun p hp hq => (na p hp).2.2 (nb p hq).1) (fun p hp => (na p hp).2.1) (fun p hp => (nb p hp).2.1) q fun t S' B' v H' F ad o fr kt => ?_
  have fresh : ∀ p, (p ∈ Fa.tail ∨ p ∈ Fb.tail) ∨ H2 p = none → H p = none ∧ B2 p = none := fun p hp => by
    rcases hp with (z | z) | z
    · exact ⟨(na p z).1, (na p z).2.1⟩
    · exact ⟨ex_none g1.h (nb p z).1, (nb p z).2.1⟩
    · exact ⟨ex_none g12.h z, ex_none g2.bh z⟩
  refine kt S' B' v H' ⟨g12.h.trans ad.h, ⟨g12.e.s.trans ad.s, g12.e.b.trans ad.b, fun p a b => ?_⟩, fun p a b => ?_, ad.sb, ad.bh⟩ ⟨F, o, fun p hp => ⟨(fresh p (fr p hp).1).1, (fr p hp).2⟩⟩
  · cases z : S2 p with
    | none => exact ex_none g12.e.b (fresh p (ad.sn p a z)).2
    | some o => exact g12.e.n p (by rw [z]; exact fun z => nomatch z) b
  · cases z : B2 p with
    | none => exact (fresh p (ad.bn p a z)).1
    | some o => exact g12.n p (by rw [z]; exact fun z => nomatch z) b
end

/-! the operators -/
section
variable {X : Cx}
theorem Add2.refl {S B H : Hp} {W : Addr → Prop} (sb : Ex S B) (bh : Ex B H) : Add2 S B H S B H W := ⟨.refl _, .refl _, .refl _, sb, bh, fun p a b => absurd b a, fun p a b => absurd b a⟩
theorem Add2.new {S B H : Hp} {W : Addr → Prop} {p : Addr} {o : HO} (sb : Ex S B) (bh : Ex B H) (hp : H p = none) : Add2 S B H S B (upd H p o) W := ⟨ex_new hp, .refl _, .refl _, sb, bh.trans (ex_new hp), fun p a b => absurd b a, fun p a b => absurd b a⟩
theorem Add2.newS {S B H : Hp} {W : Addr → Prop} {p : Addr} {o : HO} (sb : Ex S B) (bh : Ex B H) (hp : H p = none) : Add2 S B H (upd S p o) (upd B p o) (upd H p o) W := by
  have g := Gro.newS (o := o) sb bh hp
  refine ⟨g.h, g.e.s, g.e.b, g.sb, g.bh, fun q a b => .inr ?_, fun q a b => .inr (g.n q a b)⟩
  by_cases e : q = p
  · rw [e]; exact hp
  · rw [upd_ne e] at a
    exact absurd b a
def rAddU (K : PySem.W.Frag) : R2 := fun x y H Q => (∃ i j, x = .int i ∧ y = .int j ∧ Q (.int (i + j)) H) ∨ (∃ i j, x = .str i ∧ y = .str j ∧ i.length + j.length ≤ sizeLine ∧ Q (.str (i ++ j)) H) ∨ rCat x y H Q ∨ rCatA K x y H Q
theorem op_addU : OpR X (binaryOp .Add) (rAddU X.K) := op_add.or (op_add_str.or (op_cat.or op_catA))
theorem kids_tup {K : PySem.W.Frag} {S H : Hp} {v : V} {t : T} {F : List Addr} {ts : List T} (o : Own K S H v t F) (k : t.kids = some (.tup, ts)) : ∃ (p : Addr) (vs : List V) (ds : List D), v = .ref p ∧ S p = some (.tup vs) ∧ ts = ds.map T.s ∧ t = .s (.node .tup ds) ∧ RepL K S vs ds ∧ vs.length ≤ sizeLine := by
  cases o with
  | @s v d h =>
    cases d <;> try (cases k)
    cases h with
    | node h1 h2 h3 => exact ⟨_, _, _, rfl, h1, rfl, rfl, h3, h2⟩
  | @node p o sh vs ts F h1 h2 h3 h4 h5 =>
    cases k
    exact h2.elim
theorem ok_addK {S B H : Hp} {x y : V} {a b : T} {Fa Fb : List Addr} {Q : VK} {k : T → Prop} (sb : Ex S B) (bh : Ex B H) (oa : Own X.K S H x a Fa) (ob : Own X.K S H y b Fb) (dj : ∀ p ∈ Fa.tail, p ∉ Fb.tail) (ba : ∀ p ∈ Fa.tail, B p = none) (bb : ∀ p ∈ Fb.tail, B p = none) (g : gAddK a.kids b.kids k)
    (q : ∀ (t : T) (S' B' : Hp) (v : V) (H' : Hp) (F : List Addr), Add2 S B H S' B' H' (fun p => p ∈ Fa.tail ∨ p ∈ Fb.tail) → Own X.K S' H' v t F → (∀ p ∈ F, ((p ∈ Fa.tail ∨ p ∈ Fb.tail) ∨ H p = none) ∧ B' p = none) → k t → Q v H') : rCat x y H Q ∨ rCatA X.K x y H Q := by
  have sh := sb.trans bh
  unfold gAddK at g
  split at g
  · rename_i xs ys e1 e2
    obtain ⟨p, vs, rfl, h1, h2, h3⟩ := oa.kids sh e1
    obtain ⟨p', vs', rfl, h1', h2', h3'⟩ := ob.kids sh e2
    have l1 := h3.len
    have l2 := h3'.len
    refine .inl ⟨p, p', vs, vs', rfl, rfl, h1, h1', by omega, fun r hr => ?_⟩
    have oo := own_new (h3.append h3' dj) hr (by rw [List.length_append]; omega)
    refine q _ S B _ _ _ (.new sb bh hr) oo (fun z hz => ?_) g.2
    cases hz with
    | head => exact ⟨.inr hr, ex_none bh hr⟩
    | tail _ hz =>
      rcases List.mem_append.mp hz with hz | hz
      · exact ⟨.inl (.inl hz), ba z hz⟩
      · exact ⟨.inl (.inr hz), bb z hz⟩
  · rename_i xs ys e1 e2
    obtain ⟨p, vs, ds, rfl, h1, rfl, rfl, h3, h4⟩ := kids_tup oa e1
    obtain ⟨p', vs', ds', rfl, h1', rfl, rfl, h3', h4'⟩ := kids_tup ob e2
    have l1 := h3.len
    have l2 := h3'.len
    obtain ⟨g1, g2⟩ := g
    rw [List.length_map, List.length_map] at g1
    rw [er_s_map, er_s_map] at g2
    refine .inr ⟨p, p', vs, vs', rfl, rfl, SqT.of (sh _ _ h1), SqT.of (sh _ _ h1'), by omega, fun e => ?_, fun _ e => ?_, fun _ _ r hr => ?_⟩
    · subst e
      cases h3
      exact q _ S B _ _ [] (.refl sb bh) (.s (.node (sh := .tup) h1' h4' h3')) (fun _ z => nomatch z) g2
    · subst e
      cases h3'
      rw [List.append_nil] at g2
      exact q _ S B _ _ [] (.refl sb bh) (.s (.node (sh := .tup) h1 h4 h3)) (fun _ z => nomatch z) g2
    · have hS : S r = none := ex_none sh hr
      have e1 : Ex S (upd S r (.tup (vs ++ vs'))) := ex_new hS
      exact q _ _ _ _ _ [] (.newS sb bh hr) (.s (.node (sh := .tup) upd_same (by rw [List.length_append]; omega) ((h3.append h3').mono e1))) (fun _ z => nomatch z) g2
  · exact g.elim
theorem ok_add : OpOk X (rAddU X.K) gAdd := by
  intro S B H x y a b Fa Fb Q k sb bh oa ob dj ba bb g q
  unfold gAdd at g
  split at g
  · cases oa with
    | s oa =>
      cases ob with
      | s ob =>
        cases oa
        cases ob
        exact .inl ⟨_, _, rfl, rfl, q _ S B _ H [] (.refl sb bh) (.s (.int _)) (fun _ z => nomatch z) g⟩
  · cases oa with
    | s oa =>
      cases ob with
      | s ob =>
        cases oa
        cases ob
        exact .inr (.inl ⟨_, _, rfl, rfl, g.1, q _ S B _ H [] (.refl sb bh) (.s (.str _)) (fun _ z => nomatch z) g.2⟩)
  · exact .inr (.inr (ok_addK sb bh oa ob dj ba bb g q))
def rMulU : R2 := fun x y H Q => rI CMul (fun i j => .int (i * j)) x y H Q ∨ rRep x y H Q
theorem op_mulU : OpR X (binaryOp .Mult) rMulU := op_mul.or op_rep
theorem isS_map : ∀ {ts : List T}, ts.all T.isS = true → ∃ ds : List D, ts = ds.map T.s
  | [], _ => ⟨[], rfl⟩
  | t :: ts, h => by
    simp only [List.all_cons, Bool.and_eq_true] at h
    obtain ⟨ds, rfl⟩ := isS_map h.2
    cases t with
    | s d => exact ⟨d :: ds, rfl⟩
    | node sh ks => cases h.1
theorem rep_map {α β : Type} (f : α → β) (xs : List α) : ∀ n : Nat, (List.replicate n (xs.map f)).flatten = ((List.replicate n xs).flatten).map f
  | 0 => rfl
  | n + 1 => by rw [List.replicate_succ, List.replicate_succ, List.flatten_cons, List.flatten_cons, List.map_append, rep_map f xs n]
theorem RepL.rep {K : PySem.W.Frag} {S : Hp} {ds : List D} {vs : List V} (h : RepL K S vs ds) : ∀ n : Nat, RepL K S (List.replicate n vs).flatten (List.replicate n ds).flatten
  | 0 => .nil
  | n + 1 => by
    rw [List.replicate_succ, List.replicate_succ, List.flatten_cons, List.flatten_cons]
    exact h.append (RepL.rep h n)
theorem rep_len {α : Type} (xs : List α) : ∀ n : Nat, (List.replicate n xs).flatten.length = n * xs.length
  | 0 => by simp
  | n + 1 => by rw [List.replicate_succ, List.flatten_cons, List.length_append, rep_len xs n, Nat.succ_mul, Nat.add_comm]
theorem ok_mul : OpOk X rMulU gMul := by
  intro S B H x y a b Fa Fb Q k sb bh oa ob dj ba bb g q
  have sh := sb.trans bh
  unfold gMul at g
  split at g
  · cases oa with
    | s oa =>
      cases ob with
      | s ob =>
        cases oa
        cases ob
        refine .inl ⟨_, _, rfl, rfl, ?_, q _ S B _ H [] (.refl sb bh) (.s (.int _)) (fun _ z => nomatch z) g.2⟩
        rcases g.1 with z | z
        · exact .inl ⟨by omega, by omega⟩
        · exact .inr ⟨by omega, by omega⟩
  · cases ob with
    | s ob =>
      cases ob
      unfold gMulK at g
      split at g
      · rename_i xs n e1
        obtain ⟨⟨g0, g1, g2, g3⟩, g4⟩ := g
        obtain ⟨p, vs, rfl, h1, h2, h3⟩ := oa.kids sh e1
        obtain ⟨ds, rfl⟩ := isS_map g0
        obtain ⟨h3, hF⟩ := OwnL.unsh h3
        have l1 := h3.len
        rw [List.length_map] at g3
        refine .inr ⟨p, _, vs, rfl, rfl, h1, by omega, by omega, by rw [l1]; exact g3, fun r hr => ?_⟩
        rw [rep_map] at g4
        have oo := own_new (H := H) (OwnL.sh (h3.rep _)) hr (by rw [rep_len, l1, Nat.mul_comm]; exact g3)
        refine q _ S B _ _ _ (.new sb bh hr) oo (fun z hz => ?_) g4
        cases hz with
        | head => exact ⟨.inr hr, ex_none bh hr⟩
        | tail _ hz => cases hz
      · exact g.elim
  · exact g.elim
variable {a b e : Expr} {pos : Pos} {pa pb p : PX}
theorem d_add (ha : PD X a pa) (hb : PD X b pb) : PD X (.BinOp a .Add b pos) (pOp gAdd pa pb) := d_opT op_addU ok_add (fun a b _ _ f h => gAdd_mono a b f h) ha hb
theorem d_mul (ha : PD X a pa) (hb : PD X b pb) : PD X (.BinOp a .Mult b pos) (pOp gMul pa pb) := d_opT op_mulU ok_mul (fun a b _ _ f h => gMul_mono a b f h) ha hb
end
end PL

/-! The pure layer, part 4: displays, subscripts, slices, built-in calls. -/
namespace PL
open PySem L2

/-! ### displays -/
def vaL : List R → Option (List T)
  | [] => some []
  | .va t :: rs => (vaL rs).map (t :: ·)
  | .bo _ _ :: _ => none
section
variable {K : PySem.W.Frag} {S B H S' B' H' S1 B1 H1 : Hp} {σ : L2.St} {env : En} {v : V} {r : R} {t : T} {F : List Addr}
theorem RRs.own : ∀ {vs : List V} {rs : List R} {G : List Addr} {ts : List T}, RRs K S1 B1 H H1 σ vs rs G → vaL rs = some ts → OwnL K S1 H1 vs ts G
  | _, _, _, _, .nil, e => by cases e; exact .nil
  | _, _, _, _, @RRs.consT _ _ _ _ _ _ v vs t rs F G o q h d, e => by
    have e' : (vaL rs).map (t :: ·) = some _ := e
    cases z : vaL rs with
    | none => rw [z] at e'; cases e'
    | some us =>
      rw [z] at e'
      cases e'
      exact .cons o (RRs.own h z) d
  | _, _, _, _, .consB _ _ _, e => nomatch e
end
def pTup (p : PAs) : PX := fun env k => p env fun rs => ∃ ts, vaL rs = some ts ∧ ts.length ≤ 1000 ∧ k (.va (.s (.node .tup (ts.map T.er))))
def pLst (p : PAs) : PX := fun env k => p env fun rs => ∃ ts, vaL rs = some ts ∧ ts.length ≤ 1000 ∧ k (.va (.node .lst ts))
theorem sz1000 {n : Nat} (h : n ≤ 1000) : n ≤ sizeLine := Nat.le_trans h (by decide)
section
variable {X : Cx} {a b e : Expr} {es : List Expr} {pos : Pos} {pa pb p : PX} {ps : PAs}
theorem d_lst (h : PDA X es ps) : PD X (.List es pos) (pLst ps) := by
  refine ⟨PE.weak (pe_lst h.run) fun σ H Q ⟨S, B, env, sr, q⟩ => ⟨S, B, env, sr, h.mono env (fun rs ⟨ts, e, l, q⟩ S1 B1 vs H1 G g r => ?_) q⟩, fun env P Q f h' => h.mono env (fun rs ⟨ts, e, l, q⟩ => ⟨ts, e, l, f _ q⟩) h'⟩
  have o := r.own e
  have l1 := o.len
  refine ⟨sz1000 (by omega), fun r1 hr => ?_⟩
  refine q S1 B1 _ _ (g.trans (Gro.new g.sb g.bh hr)) ⟨_, own_new o hr (sz1000 (by omega)), fun z hz => ?_⟩
  cases hz with
  | head => exact ⟨ex_none g.h hr, ex_none g.bh hr⟩
  | tail _ hz =>
    obtain ⟨_, _, e1, e2⟩ := r.dom z hz
    exact ⟨e1, e2⟩
theorem d_tup {k} (h : PDA X es ps) : PD X (.Tuple es k pos) (pTup ps) := by
  refine ⟨PE.weak (pe_tup h.run) fun σ H Q ⟨S, B, env, sr, q⟩ => ⟨S, B, env, sr, h.mono env (fun rs ⟨ts, e, l, q⟩ S1 B1 vs H1 G g r => ?_) q⟩, fun env P Q f h' => h.mono env (fun rs ⟨ts, e, l, q⟩ => ⟨ts, e, l, f _ q⟩) h'⟩
  have o := r.own e
  have l1 := o.len
  refine ⟨sz1000 (by omega), fun r1 hr => ?_⟩
  have g1 : Gro S B H _ _ H1 := g.frz (G := G) fun z hz => let ⟨_, _, e1, e2⟩ := r.dom z hz; ⟨e1, e2⟩
  have rp : RepL X.K (joinF S1 H1 G) vs (ers ts) := o.frz (ex_joinF (g.sb.trans g.bh)) fun z hz => joinF_in hz
  have g2 := Gro.newS (o := .tup vs) g1.sb g1.bh hr
  refine q _ _ _ _ (g1.trans g2) (RR.sc (.node (sh := .tup) upd_same (sz1000 (by omega)) ?_))
  rw [← ers_map]
  exact rp.mono g2.e.s
end

/-! ### subscripts -/
def ixK {κ : Type} [DecidableEq κ] (ks : List κ) (k : κ) : Option Nat := ks.findIdx? fun x => decide (x = k)
theorem valV_ix {κ : Type} [DecidableEq κ] : ∀ {ks : List κ} {vs : List V} {k : κ} {j : Nat}, ixK ks k = some j → ks.length = vs.length → valV (ks.zip vs) k = vs[j]?
  | [], _, _, _, h, _ => by simp [ixK] at h
  | a :: ks, [], _, _, _, h => by simp at h
  | a :: ks, v :: vs, k, j, h, hl => by
    unfold ixK at h
    rw [List.findIdx?_cons] at h
    by_cases e : a = k
    · simp [e] at h
      subst h
      rw [List.zip_cons_cons, valV_pos e]
      rfl
    · simp only [e, decide_false, Bool.false_eq_true, if_false, Option.map_eq_some_iff] at h
      obtain ⟨j', h1, rfl⟩ := h
      rw [List.zip_cons_cons, valV_neg e, valV_ix (show ixK ks k = some j' from h1) (by simpa using hl)]
      rfl
/-- the item of t at d: where it stands and what it is -/
def subT (t : T) (d : D) (k : Nat → T → Prop) : Prop := match t.kids with
  | some (.lst, ts) => ∃ i j c, d = .int i ∧ ixN ts.length i = some j ∧ ts[j]? = some c ∧ k j c
  | some (.tup, ts) => ∃ i j c, d = .int i ∧ ixN ts.length i = some j ∧ ts[j]? = some c ∧ k j c
  | some (.ro, ts) => ∃ i j c, d = .int i ∧ ixN ts.length i = some j ∧ ts[j]? = some c ∧ k j c
  | some (.dK ks, ts) => ∃ key j c, d.key = some key ∧ ixK ks key = some j ∧ ts[j]? = some c ∧ k j c
  | some (.dT ks, ts) => ∃ key j c, d.keyT = some key ∧ ixK ks key = some j ∧ ts[j]? = some c ∧ k j c
  | some (.obj _ _, _) => False
  | none => ∃ z i c, t = .s (.str z) ∧ d = .int i ∧ z.length ≤ sizeLine ∧ atI z.cps.toList i = some c ∧ k 0 (.s (.str ⟨#[c]⟩))
theorem subT_mono (t : T) (d : D) {P Q : Nat → T → Prop} (f : ∀ j c, P j c → Q j c) (h : subT t d P) : subT t d Q := by
  unfold subT at h ⊢
  split at h
  · obtain ⟨i, j, c, e1, e2, e3, h⟩ := h; exact ⟨i, j, c, e1, e2, e3, f _ _ h⟩
  · obtain ⟨i, j, c, e1, e2, e3, h⟩ := h; exact ⟨i, j, c, e1, e2, e3, f _ _ h⟩
  · obtain ⟨i, j, c, e1, e2, e3, h⟩ := h; exact ⟨i, j, c, e1, e2, e3, f _ _ h⟩
  · obtain ⟨i, j, c, e1, e2, e3, h⟩ := h; exact ⟨i, j, c, e1, e2, e3, f _ _ h⟩
  · obtain ⟨i, j, c, e1, e2, e3, h⟩ := h; exact ⟨i, j, c, e1, e2, e3, f _ _ h⟩
  · exact h.elim
  · obtain ⟨i, j, c, e1, e2, e3, e4, h⟩ := h; exact ⟨i, j, c, e1, e2, e3, e4, f _ _ h⟩
def kidR (ra : R) (j : Nat) (c : T) (k : R → Prop) : Prop := match c, ra with
  | .s x, _ => k (.va (.s x))
  | .node sh ts, .va _ => k (.va (.node sh ts))
  | .node _ _, .bo i π => k (.bo i (π ++ [j]))
def pIx (pa pb : PX) : PX := fun env k => pa env fun ra => pb env fun rb => ∃ t u, ra.tr env = some t ∧ rb.tr env = some u ∧ subT t u.er fun j c => kidR ra j c k
def rIxD : R2 := fun x y H Q => ∃ a v, x = .ref a ∧ DGet H a y (some v) ∧ Q v H
def rIxU (K : PySem.W.Frag) : R2 := fun x y H Q => rIxL K x y H Q ∨ rIxT K x y H Q ∨ rIxS x y H Q ∨ rIxD x y H Q
section
variable {X : Cx} {a b e : Expr} {es : List Expr} {pos : Pos} {pa pb p : PX} {ps : PAs} {k : Nat}
theorem ix_dict (hu : X.A.units + 1 < cLine) : IxR X rIxD := by
  intro value slice pins s σ H x y v u Q I rx ry h hs
  obtain ⟨a, w, rfl, g, q⟩ := h
  cases rx
  exact PyProof.Rows.tail_any (dict_typeIs I g) PySem.F.slot_dict_getitem.lookup (d_getItem hu I g ry fun w' s3 I3 rw' => ⟨w, H, I3, rw', q⟩) hs
theorem ix_all (hu : X.A.units + 1 < cLine) : IxR X (rIxU X.K) := ix_list.or (ix_tup.or (ix_str.or (ix_dict hu)))
theorem ShO.same {K : PySem.W.Frag} {H : Hp} {p : Addr} {o : HO} {vs vs' : List V} (e : H p = some o) : ∀ {sh : Shape}, ShO sh vs' o → NodeR K H p sh vs → kidsV o = vs
  | .lst, h, n => by
    rw [show H p = some (.lst vs) from n] at e
    cases e
    rfl
  | .tup, h, n => h.elim
  | .ro, h, n => h.elim
  | .dK ks, h, n => by
    obtain ⟨l2, n⟩ := n
    obtain ⟨l1, rfl, _⟩ := h
    rcases n with n | ⟨ob, n⟩
    · rw [n] at e
      injection e with e
      injection e with e
      show (ks.zip vs').map (·.2) = vs
      rw [← e, zip_snd l2]
    · rw [n] at e
      cases e
  | .dT ks, h, n => by
    obtain ⟨l2, n⟩ := n
    obtain ⟨l1, rfl, _⟩ := h
    rcases n with n | ⟨ob, n⟩
    · rw [n] at e
      injection e with e
      injection e with e
      show (ks.zip vs').map (·.2) = vs
      rw [← e, zip_snd l2]
    · rw [n] at e
      cases e
  | .obj C ns, h, n => by
    obtain ⟨l2, dx, n⟩ := n
    obtain ⟨l1, dx', rfl⟩ := h
    rw [n] at e
    injection e with e
    injection e with e1 e2 e
    show (ns.zip vs').map (·.2) = vs
    rw [← e, zip_snd l2]
theorem ixN_at {α : Type} {xs : List α} {i : Int} {j : Nat} (h : ixN xs.length i = some j) : atI xs i = xs[j]? := by
  unfold atI
  rw [h]
  rfl
theorem kidR_mono (ra : R) (j : Nat) (c : T) {P Q : R → Prop} (f : ∀ r, P r → Q r) (h : kidR ra j c P) : kidR ra j c Q := by
  unfold kidR at h ⊢
  cases c with
  | s x => exact f _ h
  | node sh ts => cases ra <;> exact f _ h
/-- a child as a result -/
theorem kidR_ok {H S2 B2 H2 : Hp} {σ : L2.St} {v u : V} {ra : R} {t c : T} {F Fi : List Addr} {j : Nat} {P : R → Prop} {sh : Shape} {ts : List T} {vs : List V} {p : Addr} (bh : Ex B2 H2) (r : RR X.K S2 B2 H H2 σ v ra) (ev : v = .ref p) (o : Own X.K S2 H2 v t F) (hF : (∃ t, ra = .va t) → ∀ p ∈ F, H p = none ∧ B2 p = none) (hk : t.kids = some (sh, ts))
    (oc : Own X.K S2 H2 u c Fi) (hFi : ∀ p ∈ Fi, p ∈ F) (hv : vs[j]? = some u) (hn : ∀ sh' ts', t = .node sh' ts' → ∃ o, H2 p = some o ∧ kidsV o = vs) (hc : ts[j]? = some c) (h : kidR ra j c P) : ∃ r', RR X.K S2 B2 H H2 σ u r' ∧ P r' := by
  unfold kidR at h
  cases c with
  | s x =>
    cases oc with
    | s oc => exact ⟨_, RR.sc oc, h⟩
  | node sh' ts' =>
    cases ra with
    | va t' => exact ⟨.va (.node sh' ts'), ⟨Fi, oc, fun p hp => hF ⟨_, rfl⟩ p (hFi p hp)⟩, h⟩
    | bo i π =>
      obtain ⟨v0, e0, at0⟩ := r
      refine ⟨.bo i (π ++ [j]), ⟨v0, e0, ?_⟩, h⟩
      cases t with
      | s d =>
        exfalso
        cases d <;> try (cases hk)
        rw [List.getElem?_map] at hc
        obtain ⟨d, _, hd⟩ := Option.map_eq_some_iff.mp hc
        cases hd
      | node sh3 ts3 =>
        obtain ⟨o, e1, e2⟩ := hn _ _ rfl
        exact at0.snoc ev e1 (by rw [e2]; exact hv)
theorem d_ix (hr : Room k X.A) (ha : PD X a pa) (hb : PD X b pb) (hs : PlainIx b := by exact fun _ _ => rfl) : PD X (.Subscript a b pos) (pIx pa pb) := by
  refine ⟨PE.weak (pe_ix (ix_all (hu1 hr)) ha.run hb.run hs) fun σ H Q ⟨S, B, env, sr, q⟩ => ?_, fun env P Q f h => ha.mono env (fun ra h => hb.mono env (fun rb ⟨t, u, e1, e2, h⟩ => ⟨t, u, e1, e2, subT_mono _ _ (fun j c h => kidR_mono _ _ _ f h) h⟩) h) h⟩
  refine ⟨S, B, env, sr, ha.mono env (fun ra q S1 B1 v1 H1 g1 r1 => ?_) q⟩
  refine ⟨S1, B1, env, sr.gro g1, hb.mono env (fun rb q S2 B2 v2 H2 g2 r2 => ?_) q⟩
  obtain ⟨t, u, ea, eb, q⟩ := q
  have sr2 := (sr.gro g1).gro g2
  have g12 := g1.trans g2
  have r1' := r1.gro g1.h g2
  obtain ⟨F, o, hF⟩ := r1'.get sr2 ea
  have ry := r2.rep sr2 eb
  have sh2 := sr2.sh
  have done : ∀ {v : V} {r : R}, RR X.K S2 B2 H H2 σ v r → (∀ S' B' v H', Gro S B H S' B' H' → RR X.K S' B' H H' σ v r → Q v H') → Q v H2 := fun h q => q S2 B2 _ H2 g12 h
  have kid : ∀ {p : Addr} {sh : Shape} {ts : List T} {vs : List V} {j : Nat} {c : T}, v1 = .ref p → t.kids = some (sh, ts) → NodeR X.K H2 p sh vs → OwnL X.K S2 H2 vs ts F.tail → ts[j]? = some c → kidR ra j c (fun r => ∀ S' B' v H', Gro S B H S' B' H' → RR X.K S' B' H H' σ v r → Q v H') → ∃ w, vs[j]? = some w ∧ Q w H2 := by
    intro p sh ts vs j c ev hk hn ol hc h
    obtain ⟨w, Fi, a1, a2, a3, _⟩ := ol.focus hc
    obtain ⟨r', b1, b2⟩ := kidR_ok (vs := vs) g2.bh r1' ev o hF hk a2 (fun p hp => List.mem_of_mem_tail (a3 p hp)) a1 (fun sh' ts' et => by
      subst et
      cases o with
      | @node p' o' sh' vs' ts' F' h1 h2 h3 h4 h5 =>
        cases ev
        cases hk
        exact ⟨o', h1, ShO.same h1 h2 hn⟩) hc h
    exact ⟨w, a1, done b1 b2⟩
  have lenE : ∀ {vs : List V} {ts : List T} {G : List Addr}, OwnL X.K S2 H2 vs ts G → ts.length = vs.length := fun h => h.len.symm
  unfold subT at q
  split at q
  · rename_i ts hk
    obtain ⟨i, j, c, e1, e2, e3, q⟩ := q
    obtain ⟨p, vs, ev, hn, hl, ol⟩ := o.kids sh2 hk
    obtain ⟨w, a1, a2⟩ := kid ev hk hn ol e3 q
    rw [e1] at ry
    cases ry
    rw [lenE ol] at e2
    exact .inl ⟨p, vs, i, w, ev, rfl, SqL.of hn, (ixN_at e2).trans a1, a2⟩
  · rename_i ts hk
    obtain ⟨i, j, c, e1, e2, e3, q⟩ := q
    obtain ⟨p, vs, ev, hn, hl, ol⟩ := o.kids sh2 hk
    obtain ⟨w, a1, a2⟩ := kid ev hk hn ol e3 q
    rw [e1] at ry
    cases ry
    rw [lenE ol] at e2
    exact .inr (.inl ⟨p, vs, i, w, ev, rfl, SqT.of hn, (ixN_at e2).trans a1, a2⟩)
  · rename_i ts hk
    obtain ⟨i, j, c, e1, e2, e3, q⟩ := q
    obtain ⟨p, vs, ev, hn, hl, ol⟩ := o.kids sh2 hk
    obtain ⟨w, a1, a2⟩ := kid ev hk hn ol e3 q
    rw [e1] at ry
    cases ry
    rw [lenE ol] at e2
    exact .inl ⟨p, vs, i, w, ev, rfl, hn, (ixN_at e2).trans a1, a2⟩
  · rename_i ks ts hk
    obtain ⟨key, j, c, e1, e2, e3, q⟩ := q
    obtain ⟨p, vs, ev, hn, hl, ol⟩ := o.kids sh2 hk
    obtain ⟨w, a1, a2⟩ := kid ev hk hn ol e3 q
    exact .inr (.inr (.inr ⟨p, w, ev, .inl ⟨_, key, hn.2, key_rep ry e1, by rw [valV_ix e2 hn.1]; exact a1.symm⟩, a2⟩))
  · rename_i ks ts hk
    obtain ⟨key, j, c, e1, e2, e3, q⟩ := q
    obtain ⟨p, vs, ev, hn, hl, ol⟩ := o.kids sh2 hk
    obtain ⟨w, a1, a2⟩ := kid ev hk hn ol e3 q
    obtain ⟨b, eb, hb⟩ := keyT_rep ry e1
    exact .inr (.inr (.inr ⟨p, w, ev, .inr ⟨_, key, b, hn.2, eb, hb, by rw [valV_ix e2 hn.1]; exact a1.symm⟩, a2⟩))
  · exact q.elim
  · obtain ⟨z, i, c, e0, e1, e2, e3, q⟩ := q
    subst e0
    rw [e1] at ry
    cases ry
    cases o with
    | s o =>
      cases o
      refine .inr (.inr (.inl ⟨z, i, c, rfl, rfl, e2, e3, ?_⟩))
      exact q S2 B2 _ H2 g12 (RR.sc (.str _))
end
end PL

/-! The pure layer, part 5: slices, built-in calls. -/
namespace PL
open PySem L2

/-! ### slices -/
abbrev PO' := En → (Option Int → Prop) → Prop
def tDO (K : PySem.W.Frag) (p : PO') : TO := fun σ H Q => ∃ S B env, SR K S B H σ env ∧ p env fun o => ∀ S' B' H', Gro S B H S' B' H' → Q o H'
structure PDO (X : Cx) (e : Option Expr) (p : PO') : Prop where
  po : ∃ t, PO X e t ∧ ∀ σ H Q, tDO X.K p σ H Q → t σ H Q
  mono : ∀ (env : En) {P Q : Option Int → Prop}, (∀ r, P r → Q r) → p env P → p env Q
def pNoPart : PO' := fun _ k => k none
def pPart (p : PX) : PO' := fun env k => p env fun r => ∃ i, r = .va (.s (.int i)) ∧ k (some i)
def cutL {α : Type} (xs : List α) (lo hi : Option Int) : List α := (xs.drop (HT.sIx xs.length 0 lo)).take (HT.sIx xs.length xs.length hi - HT.sIx xs.length 0 lo)
theorem cutL_map {α β : Type} (f : α → β) (xs : List α) (lo hi : Option Int) : cutL (xs.map f) lo hi = (cutL xs lo hi).map f := by
  unfold cutL
  rw [List.length_map, ← List.map_drop, ← List.map_take]
section
variable {K : PySem.W.Frag} {S H : Hp}
theorem OwnL.drop : ∀ {ts : List T} {vs : List V} {F : List Addr} (n : Nat), OwnL K S H vs ts F → ∃ G, OwnL K S H (vs.drop n) (ts.drop n) G ∧ ∀ p ∈ G, p ∈ F
  | _, _, F, 0, h => ⟨F, h, fun _ q => q⟩
  | [], _, _, n + 1, h => by cases h; exact ⟨[], .nil, fun _ q => q⟩
  | t :: ts, _, _, n + 1, h => by
    cases h with
    | cons h1 h2 h3 =>
      obtain ⟨G, a, b⟩ := OwnL.drop n h2
      exact ⟨G, a, fun p hp => List.mem_append_right _ (b p hp)⟩
theorem OwnL.take : ∀ {ts : List T} {vs : List V} {F : List Addr} (n : Nat), OwnL K S H vs ts F → ∃ G, OwnL K S H (vs.take n) (ts.take n) G ∧ ∀ p ∈ G, p ∈ F
  | _, _, F, 0, h => ⟨[], .nil, fun _ q => nomatch q⟩
  | [], _, _, n + 1, h => by cases h; exact ⟨[], .nil, fun _ q => q⟩
  | t :: ts, _, _, n + 1, h => by
    cases h with
    | @cons v vs _ _ F1 F2 h1 h2 h3 =>
      obtain ⟨G, a, b⟩ := OwnL.take n h2
      refine ⟨F1 ++ G, .cons h1 a fun p hp hq => h3 p hp (b p hq), fun p hp => ?_⟩
      rcases List.mem_append.mp hp with hp | hp
      · exact List.mem_append_left _ hp
      · exact List.mem_append_right _ (b p hp)
theorem OwnL.cut {ts : List T} {vs : List V} {F : List Addr} (h : OwnL K S H vs ts F) (lo hi : Option Int) : ∃ G, OwnL K S H (cutV vs lo hi) (cutL ts lo hi) G ∧ ∀ p ∈ G, p ∈ F := by
  obtain ⟨G1, a1, b1⟩ := h.drop (HT.sIx vs.length 0 lo)
  obtain ⟨G2, a2, b2⟩ := a1.take (HT.sIx vs.length vs.length hi - HT.sIx vs.length 0 lo)
  refine ⟨G2, ?_, fun p hp => b1 p (b2 p hp)⟩
  have e : cutL ts lo hi = (ts.drop (HT.sIx vs.length 0 lo)).take (HT.sIx vs.length vs.length hi - HT.sIx vs.length 0 lo) := by
    unfold cutL
    rw [h.len]
  rw [e]
  exact a2
theorem RepL.cut {ds : List D} {vs : List V} (h : RepL K S vs ds) (lo hi : Option Int) : RepL K S (cutV vs lo hi) (cutL ds lo hi) := by
  obtain ⟨G, a, b⟩ := (OwnL.sh (H := S) h).cut lo hi
  rw [cutL_map] at a
  exact (OwnL.unsh a).1
end
def gSl (t : T) (lo hi : Option Int) (k : T → Prop) : Prop := match t.kids with
  | some (.lst, ts) => k (.node .lst (cutL ts lo hi))
  | some (.tup, ts) => k (.s (.node .tup ((cutL ts lo hi).map T.er)))
  | none => ∃ z, t = .s (.str z) ∧ z.length ≤ sizeLine ∧ k (.s (.str (cutS z lo hi)))
  | _ => False
theorem gSl_mono (t : T) (lo hi : Option Int) {P Q : T → Prop} (f : ∀ t, P t → Q t) (h : gSl t lo hi P) : gSl t lo hi Q := by
  unfold gSl at h ⊢
  split at h
  · exact f _ h
  · exact f _ h
  · obtain ⟨z, a, b, h⟩ := h
    exact ⟨z, a, b, f _ h⟩
  · exact h.elim
def pSl (pa : PX) (pl ph : PO') : PX := fun env k => pa env fun r => pl env fun lo => ph env fun hi => ∃ t, r.mv env = some t ∧ gSl t lo hi fun t => k (.va t)
section
variable {X : Cx} {a b e : Expr} {lo hi : Option Expr} {es : List Expr} {pos p2 : Pos} {pa pb p : PX} {ps : PAs} {k : Nat} {pl ph : PO'}
theorem do_none : PDO X none pNoPart := ⟨⟨tNoPart, po_none, fun σ H Q ⟨S, B, env, sr, q⟩ => q S B H (Gro.refl sr.sb sr.bh)⟩, fun env P Q f h => f _ h⟩
theorem do_some (h : PD X a pa) : PDO X (some a) (pPart pa) := by
  refine ⟨⟨tPart (tD X.K pa), po_some h.run, fun σ H Q ⟨S, B, env, sr, q⟩ => ⟨S, B, env, sr, h.mono env (fun r ⟨i, e, q⟩ S1 B1 v H1 g r1 => ?_) q⟩⟩, fun env P Q f h' => h.mono env (fun r ⟨i, e, q⟩ => ⟨i, e, f _ q⟩) h'⟩
  subst e
  obtain ⟨F, o, _⟩ := r1
  cases o with
  | s o =>
    cases o
    exact ⟨i, rfl, q S1 B1 H1 g⟩
def rSlU (K : PySem.W.Frag) : V → Option Int → Option Int → Hp → VK → Prop := fun x lo hi H Q => rSlL K x lo hi H Q ∨ rSlA K x lo hi H Q ∨ rSlS x lo hi H Q
theorem sl_all : SlR X (rSlU X.K) := sl_list.or (sl_tupA.or sl_str)
theorem d_sl (ha : PD X a pa) (hl : PDO X lo pl) (hh : PDO X hi ph) : PD X (.Subscript a (.Slice lo hi none p2) pos) (pSl pa pl ph) := by
  obtain ⟨tl, hl1, hl2⟩ := hl.po
  obtain ⟨th, hh1, hh2⟩ := hh.po
  refine ⟨PE.weak (pe_slice sl_all ha.run hl1 hh1) fun σ H Q ⟨S, B, env, sr, q⟩ => ?_, fun env P Q f h => ha.mono env (fun r h => hl.mono env (fun lo h => hh.mono env (fun hi ⟨t, e, h⟩ => ⟨t, e, gSl_mono _ _ _ (fun t h => f _ h) h⟩) h) h) h⟩
  refine ⟨S, B, env, sr, ha.mono env (fun ra q S1 B1 v1 H1 g1 r1 => hl2 _ _ _ ?_) q⟩
  refine ⟨S1, B1, env, sr.gro g1, hl.mono env (fun l q S2 B2 H2 g2 => hh2 _ _ _ ?_) q⟩
  refine ⟨S2, B2, env, (sr.gro g1).gro g2, hh.mono env (fun u q S3 B3 H3 g3 => ?_) q⟩
  obtain ⟨t, et, q⟩ := q
  have g23 := g2.trans g3
  have g13 := g1.trans g23
  have sr3 := (sr.gro g1).gro g23
  obtain ⟨F, o, na⟩ := r1.mvd sr3 g1.h g23 et
  have sh3 := sr3.sh
  unfold gSl at q
  split at q
  · rename_i ts hk
    obtain ⟨p, vs, ev, hn, hz, ol⟩ := o.kids sh3 hk
    obtain ⟨G, oc, hG⟩ := ol.cut l u
    refine .inl ⟨p, vs, ev, SqL.of hn, fun r hr => ?_⟩
    refine q S3 B3 _ _ (g13.trans (Gro.new g3.sb g3.bh hr)) ⟨_, own_new oc hr (Nat.le_trans (cutV_length _ _ _) hz), fun z hz => ?_⟩
    cases hz with
    | head => exact ⟨ex_none g13.h hr, ex_none g3.bh hr⟩
    | tail _ hz => exact ⟨(na z (hG z hz)).1, (na z (hG z hz)).2.1⟩
  · rename_i ts hk
    obtain ⟨p, vs, ds, ev, h1, rfl, e2, h3, h4⟩ := kids_tup o hk
    subst e2
    rw [cutL_map, er_s_map] at q
    refine .inr (.inl ⟨p, vs, ev, SqT.of (sh3 _ _ h1), fun ⟨w1, w2⟩ => ?_, fun _ r hr => ?_⟩)
    · have ec : cutV vs l u = vs := by
        unfold cutV
        rw [w1, w2, List.drop_zero, Nat.sub_zero, List.take_length]
      have rc := h3.cut l u
      rw [ec] at rc
      exact q S3 B3 _ _ g13 (RR.sc (.node (sh := .tup) h1 h4 rc))
    · have g4 := Gro.newS (o := .tup (cutV vs l u)) g3.sb g3.bh hr
      exact q _ _ _ _ (g13.trans g4) (RR.sc (.node (sh := .tup) upd_same (Nat.le_trans (cutV_length _ _ _) h4) ((h3.cut l u).mono g4.e.s)))
  · obtain ⟨z, e0, hz, q⟩ := q
    subst e0
    cases o with
    | s o =>
      cases o
      exact .inr (.inr ⟨z, rfl, hz, q S3 B3 _ _ g13 (RR.sc (.str _))⟩)
  · exact q.elim
theorem OwnL.snocR {K : PySem.W.Frag} {S H : Hp} : ∀ {ts : List T} {vs : List V} {F : List Addr}, OwnL K S H vs ts F → ∃ G, OwnL K S H vs.reverse ts.reverse G ∧ ∀ p ∈ G, p ∈ F
  | [], _, _, h => by cases h; exact ⟨[], .nil, fun _ q => q⟩
  | t :: ts, _, _, h => by
    cases h with
    | @cons v vs _ _ F1 F2 h1 h2 h3 =>
      obtain ⟨G, a, b⟩ := OwnL.snocR h2
      have one : OwnL K S H [v] [t] F1 := by
        have := OwnL.cons h1 (OwnL.nil) (fun p _ z => nomatch z)
        rwa [List.append_nil] at this
      refine ⟨G ++ F1, ?_, fun p hp => ?_⟩
      · rw [List.reverse_cons, List.reverse_cons]
        exact a.append one fun p hp hq => h3 p hq (b p hp)
      · rcases List.mem_append.mp hp with hp | hp
        · exact List.mem_append_right _ (b p hp)
        · exact List.mem_append_left _ hp
/-- xs[::-1] -/
def pRev (pa : PX) : PX := fun env k => pa env fun r => ∃ t ts, r.mv env = some t ∧ t.kids = some (.lst, ts) ∧ k (.va (.node .lst ts.reverse))
theorem d_rev {k : Nat} {p1 p2 p3 : Pos} (ha : PD X a pa) : PD X (.Subscript a (.Slice none none (some (.UnaryOp .USub (.Constant (.int 1) k p1) p2)) p3) pos) (pRev pa) := by
  refine ⟨PE.weak (pe_revL ha.run) fun σ H Q ⟨S, B, env, sr, q⟩ => ⟨S, B, env, sr, ha.mono env (fun ra ⟨t, ts, et, hk, q⟩ S1 B1 v1 H1 g1 r1 => ?_) q⟩, fun env P Q f h => ha.mono env (fun r ⟨t, ts, et, hk, q⟩ => ⟨t, ts, et, hk, f _ q⟩) h⟩
  have sr1 := sr.gro g1
  obtain ⟨F, o, na⟩ := r1.mvd sr1 g1.h (Gro.refl g1.sb g1.bh) et
  obtain ⟨p, vs, ev, hn, hz, ol⟩ := o.kids sr1.sh hk
  obtain ⟨G, oc, hG⟩ := ol.snocR
  refine ⟨p, vs, ev, SqL.of hn, fun r hr => ?_⟩
  refine q S1 B1 _ _ (g1.trans (Gro.new g1.sb g1.bh hr)) ⟨_, own_new oc hr (by rw [List.length_reverse]; exact hz), fun z hz => ?_⟩
  cases hz with
  | head => exact ⟨ex_none g1.h hr, ex_none g1.bh hr⟩
  | tail _ hz => exact ⟨(na z (hG z hz)).1, (na z (hG z hz)).2.1⟩
end

/-! ### built-in calls whose result is no object -/
def datsR (env : En) : List R → Option (List D)
  | [] => some []
  | r :: rs => match r.tr env, datsR env rs with
    | some t, some ds => some (t.er :: ds)
    | _, _ => none
theorem RRs.rep {K : PySem.W.Frag} {S1 B1 H H1 : Hp} {σ : L2.St} {env : En} (sr : SR K S1 B1 H1 σ env) : ∀ {vs : List V} {rs : List R} {G : List Addr} {ds : List D}, RRs K S1 B1 H H1 σ vs rs G → datsR env rs = some ds → RepL K H1 vs ds
  | _, _, _, _, .nil, e => by cases e; exact .nil
  | _, _, _, ds, @RRs.consT _ _ _ _ _ _ v vs t rs F G o q h d, e => by
    have e' : (match some t, datsR env rs with
      | some t, some ds => some (t.er :: ds)
      | _, _ => none) = some ds := e
    cases z : datsR env rs with
    | none => rw [z] at e'; cases e'
    | some us =>
      rw [z] at e'
      cases e'
      exact .cons (o.rep sr.sh) (RRs.rep sr h z)
  | _, _, _, ds, @RRs.consB _ _ _ _ _ _ v v0 vs i π rs G e0 a h, e => by
    have e' : (match look env i π, datsR env rs with
      | some t, some ds => some (t.er :: ds)
      | _, _ => none) = some ds := e
    cases y : look env i π with
    | none => rw [y] at e'; cases e'
    | some t =>
      cases z : datsR env rs with
      | none => rw [y, z] at e'; cases e'
      | some us =>
        rw [y, z] at e'
        cases e'
        have rr : RR K S1 B1 H H1 σ v (.bo i π) := ⟨v0, e0, a⟩
        exact .cons (rr.rep sr (show R.tr env (.bo i π) = some t from y)) (RRs.rep sr h z)
def ScC (K : PySem.W.Frag) (r : List V → Hp → VK → Prop) (g : List D → (D → Prop) → Prop) : Prop :=
  ∀ (H : Hp) (vs : List V) (ds : List D) (k : D → Prop) (Q : VK), RepL K H vs ds → g ds k → (∀ v a, RepA v a → k a → Q v H) → r vs H Q
abbrev MonoC (g : List D → (D → Prop) → Prop) : Prop := ∀ (ds : List D) {P Q : D → Prop}, (∀ b, P b → Q b) → g ds P → g ds Q
def pCB (g : List D → (D → Prop) → Prop) (ps : PAs) : PX := fun env k => ps env fun rs => ∃ ds, datsR env rs = some ds ∧ g ds fun d => k (.va (.s d))
section
variable {X : Cx} {a b e : Expr} {es : List Expr} {pos p : Pos} {pa pb : PX} {ps : PAs} {k : Nat} {x : Str} {id T' : String} {r : List V → Hp → VK → Prop} {g : List D → (D → Prop) → Prop}
theorem callS (sc : ScC X.K r g) (h : PDA X (e :: es) ps) (σ : L2.St) (H : Hp) (Q : VK) (q : tD X.K (pCB g ps) σ H Q) : tCB r (tDA X.K ps) σ H Q := by
  obtain ⟨S, B, env, sr, q⟩ := q
  refine ⟨S, B, env, sr, h.mono env (fun rs ⟨ds, e, q⟩ S1 B1 vs H1 G g1 r1 => ?_) q⟩
  exact sc H1 vs ds _ _ (r1.rep (sr.gro g1) e) q fun v d rd q => q S1 B1 v H1 g1 (RR.sc (rd _ _))
theorem callS_mono (mg : MonoC g) (h : PDA X (e :: es) ps) : Mono (pCB g ps) := fun env P Q f q => h.mono env (fun rs ⟨ds, e, q⟩ => ⟨ds, e, mg _ (fun d q => f _ q) q⟩) q
theorem d_callB (hc : CallR X (.builtin id) r) (sc : ScC X.K r g) (mg : MonoC g) (hg : Gl X x) (hm : X.mg x = none) (hv : bootBuiltins x = some (.builtin id)) (h : PDA X (e :: es) ps) (hn : x ≠ "__name__" := by decide) (hdb : (x == ("__debug__" : Str)) = false := by decide)
    (he : starEach (e :: es) X.env = (false, eval e X.env) :: starEach es X.env := by rfl) (hpl : (backTo pos (starEach es X.env)).any (·.1) = false := by rfl) : PD X (.Call (.Name x p) (e :: es) [] pos) (pCB g ps) :=
  ⟨PE.weak (pe_callB hc hg hm hv h.run hn hdb he hpl) (callS sc h), callS_mono mg h⟩
end
end PL

/-! The pure layer, part 6: len, int, min, max, sum, sorted, list, tuple, isinstance. -/
namespace PL
open PySem L2

/-! ### len -/
def gLen : List D → (D → Prop) → Prop
  | [.node .lst ds], k => k (.int ds.length)
  | [.node .tup ds], k => k (.int ds.length)
  | [.node .ro ds], k => k (.int ds.length)
  | [.node (.dK ks) ds], k => k (.int ks.length)
  | [.node (.dT ks) ds], k => k (.int ks.length)
  | [.str z], k => z.length ≤ sizeLine ∧ k (.int z.length)
  | _, _ => False
theorem mono_len : MonoC gLen := fun ds P Q f h => by
  unfold gLen at h ⊢
  split at h
  · exact f _ h
  · exact f _ h
  · exact f _ h
  · exact f _ h
  · exact f _ h
  · exact ⟨h.1, f _ h.2⟩
  · exact h.elim
def rLenD : List V → Hp → VK → Prop := fun xs H Q => ∃ (p : Addr) (kvs : List (Key × V)), xs = [.ref p] ∧ Rd H p (.dK kvs) ∧ Q (.int ((kvs.length : Nat) : Int)) H
theorem call_lenD0 {X : Cx} : CallR X (.builtin "len") rLenD := by
  intro pins s σ H xs us Q I r h
  obtain ⟨p, kvs, rfl, e, q⟩ := h
  obtain ⟨u, rfl, rx⟩ := vals1 r
  cases rx
  exact d_len I e fun t s' I' => ⟨.int _, H, I', ⟨t, rfl⟩, q⟩
def rLenTR : List V → Hp → VK → Prop := fun xs H Q => ∃ (p : Addr) (kvs : List (List Key × V)), xs = [.ref p] ∧ Rd H p (.dT kvs) ∧ Q (.int ((kvs.length : Nat) : Int)) H
theorem call_lenT0 {X : Cx} : CallR X (.builtin "len") rLenTR := by
  intro pins s σ H xs us Q I r h
  obtain ⟨p, kvs, rfl, hp, q⟩ := h
  obtain ⟨u, rfl, rx⟩ := vals1 r
  cases rx
  obtain ⟨z, hd, ys, rel, dd⟩ := dt_rd I.hok hp
  have el : kvs.length = ys.length := Paired.length rel
  have z2 := sizeLine_eq
  refine call_len_dictH hd dd (by omega) ?_
  rw [← el]
  exact ⟨.int _, H, I.tok _, ⟨_, rfl⟩, q⟩
def rLenU (K : PySem.W.Frag) : List V → Hp → VK → Prop := fun xs H Q => (∃ x n, xs = [x] ∧ LenV K x H n ∧ Q (.int n) H) ∨ rLenD xs H Q ∨ rLenTR xs H Q
theorem call_lenU {X : Cx} : CallR X (.builtin "len") (rLenU X.K) := call_len.or (call_lenD0.or call_lenT0)
theorem RepL.one {K : PySem.W.Frag} {S : Hp} {vs : List V} {d : D} (h : RepL K S vs [d]) : ∃ v, vs = [v] ∧ Rep K S v d := by
  cases h with
  | cons h1 h2 => cases h2; exact ⟨_, rfl, h1⟩
theorem RepL.two {K : PySem.W.Frag} {S : Hp} {vs : List V} {d e : D} (h : RepL K S vs [d, e]) : ∃ v w, vs = [v, w] ∧ Rep K S v d ∧ Rep K S w e := by
  cases h with
  | cons h1 h2 =>
    obtain ⟨w, rfl, h3⟩ := h2.one
    exact ⟨_, w, rfl, h1, h3⟩
theorem len_zip {α β : Type} {a : List α} {b : List β} (h : a.length = b.length) : (a.zip b).length = a.length := by
  rw [List.length_zip, ← h, Nat.min_self]
theorem sc_len {K : PySem.W.Frag} : ScC K (rLenU K) gLen := fun H vs ds k Q h g q => by
  unfold gLen at g
  split at g
  · obtain ⟨v, rfl, hr⟩ := h.one
    cases hr with
    | node h1 h2 h3 =>
      rw [← h3.len] at g
      exact .inl ⟨_, _, rfl, .inl ⟨_, SqL.of h1, rfl⟩, q _ _ (repA_int _) g⟩
  · obtain ⟨v, rfl, hr⟩ := h.one
    cases hr with
    | node h1 h2 h3 =>
      rw [← h3.len] at g
      exact .inl ⟨_, _, rfl, .inr ⟨_, SqT.of h1, rfl⟩, q _ _ (repA_int _) g⟩
  · obtain ⟨v, rfl, hr⟩ := h.one
    cases hr with
    | node h1 h2 h3 =>
      rw [← h3.len] at g
      exact .inl ⟨_, _, rfl, .inl ⟨_, h1, rfl⟩, q _ _ (repA_int _) g⟩
  · obtain ⟨v, rfl, hr⟩ := h.one
    cases hr with
    | node h1 h2 h3 =>
      refine .inr (.inl ⟨_, _, rfl, h1.2, ?_⟩)
      rw [len_zip h1.1]
      exact q _ _ (repA_int _) g
  · obtain ⟨v, rfl, hr⟩ := h.one
    cases hr with
    | node h1 h2 h3 =>
      refine .inr (.inr ⟨_, _, rfl, h1.2, ?_⟩)
      rw [len_zip h1.1]
      exact q _ _ (repA_int _) g
  · obtain ⟨v, rfl, hr⟩ := h.one
    cases hr
    exact .inl ⟨_, _, rfl, ⟨g.1, rfl⟩, q _ _ (repA_int _) g.2⟩
  · exact g.elim

/-! ### int, abs, min, max, sum -/
def gInt : List D → (D → Prop) → Prop
  | [.int i], k => k (.int i)
  | [.bl b], k => k (.int (if b then 1 else 0))
  | _, _ => False
def gAbs : List D → (D → Prop) → Prop
  | [.int i], k => k (.int (if i < 0 then -i else i))
  | _, _ => False
def intsD : List D → Option (List Int)
  | [] => some []
  | .int i :: ds => (intsD ds).map (i :: ·)
  | _ => none
theorem intsD_map : ∀ ns : List Int, intsD (ns.map D.int) = some ns
  | [] => rfl
  | n :: ns => by
    show (intsD (ns.map D.int)).map (n :: ·) = _
    rw [intsD_map ns]
    rfl
theorem intsD_rep {K : PySem.W.Frag} {S : Hp} : ∀ {ds : List D} {vs : List V} {ns : List Int}, RepL K S vs ds → intsD ds = some ns → vs = ns.map V.int ∧ ds = ns.map D.int
  | [], _, _, h, e => by cases h; cases e; exact ⟨rfl, rfl⟩
  | d :: ds, _, _, h, e => by
    cases h with
    | cons h1 h2 =>
      cases d <;> try (cases e)
      cases h1
      cases z : intsD ds with
      | none =>
        have e' : (intsD ds).map (_ :: ·) = some _ := e
        rw [z] at e'
        cases e'
      | some ms =>
        have e' : (intsD ds).map (_ :: ·) = some _ := e
        rw [z] at e'
        cases e'
        obtain ⟨a, b⟩ := intsD_rep h2 z
        exact ⟨by rw [a]; rfl, by rw [b]; rfl⟩
def gSum : List D → (D → Prop) → Prop
  | [.node .lst ds], k => ∃ ns, intsD ds = some ns ∧ k (.int ns.sum)
  | _, _ => False
def gMin : List D → (D → Prop) → Prop
  | [.int i, .int j], k => k (.int (if j < i then j else i))
  | [.node .lst ds], k => ∃ ns, intsD ds = some ns ∧ 0 < ns.length ∧ ∀ m, m ∈ ns → (∀ y ∈ ns, m ≤ y) → k (.int m)
  | _, _ => False
def gMax : List D → (D → Prop) → Prop
  | [.int i, .int j], k => k (.int (if j > i then j else i))
  | [.node .lst ds], k => ∃ ns, intsD ds = some ns ∧ 0 < ns.length ∧ ∀ m, m ∈ ns → (∀ y ∈ ns, y ≤ m) → k (.int m)
  | _, _ => False
theorem mono_int : MonoC gInt := fun ds P Q f h => by
  unfold gInt at h ⊢
  split at h
  · exact f _ h
  · exact f _ h
  · exact h.elim
theorem mono_abs : MonoC gAbs := fun ds P Q f h => by
  unfold gAbs at h ⊢
  split at h
  · exact f _ h
  · exact h.elim
theorem mono_sum : MonoC gSum := fun ds P Q f h => by
  unfold gSum at h ⊢
  split at h
  · obtain ⟨ns, a, h⟩ := h
    exact ⟨ns, a, f _ h⟩
  · exact h.elim
theorem mono_min : MonoC gMin := fun ds P Q f h => by
  unfold gMin at h ⊢
  split at h
  · exact f _ h
  · obtain ⟨ns, a, b, h⟩ := h
    exact ⟨ns, a, b, fun m x y => f _ (h m x y)⟩
  · exact h.elim
theorem mono_max : MonoC gMax := fun ds P Q f h => by
  unfold gMax at h ⊢
  split at h
  · exact f _ h
  · obtain ⟨ns, a, b, h⟩ := h
    exact ⟨ns, a, b, fun m x y => f _ (h m x y)⟩
  · exact h.elim
theorem sc_int {K : PySem.W.Frag} : ScC K (fun xs H Q => (∃ i, xs = [.int i] ∧ Q (.int i) H) ∨ ∃ k, xs = [.bl k] ∧ Q (.int (if k then 1 else 0)) H) gInt := fun H vs ds k Q h g q => by
  unfold gInt at g
  split at g
  · obtain ⟨v, rfl, hr⟩ := h.one
    cases hr
    exact .inl ⟨_, rfl, q _ _ (repA_int _) g⟩
  · obtain ⟨v, rfl, hr⟩ := h.one
    cases hr
    exact .inr ⟨_, rfl, q _ _ (repA_int _) g⟩
  · exact g.elim
theorem sc_abs {K : PySem.W.Frag} : ScC K (fun xs H Q => ∃ i, xs = [.int i] ∧ Q (.int (if i < 0 then -i else i)) H) gAbs := fun H vs ds k Q h g q => by
  unfold gAbs at g
  split at g
  · obtain ⟨v, rfl, hr⟩ := h.one
    cases hr
    exact ⟨_, rfl, q _ _ (repA_int _) g⟩
  · exact g.elim
theorem sc_sum {K : PySem.W.Frag} : ScC K (rSum K) gSum := fun H vs ds k Q h g q => by
  unfold gSum at g
  split at g
  · obtain ⟨ns, e, g⟩ := g
    obtain ⟨v, rfl, hr⟩ := h.one
    cases hr with
    | node h1 h2 h3 =>
      obtain ⟨rfl, _⟩ := intsD_rep h3 e
      exact ⟨_, ns, rfl, SqL.of h1, q _ _ (repA_int _) g⟩
  · exact g.elim
theorem sc_min {K : PySem.W.Frag} : ScC K (fun xs H Q => (∃ i j, xs = [.int i, .int j] ∧ Q (.int (if j < i then j else i)) H) ∨ rMin K xs H Q) gMin := fun H vs ds k Q h g q => by
  unfold gMin at g
  split at g
  · obtain ⟨v, w, rfl, hr, hr'⟩ := h.two
    cases hr
    cases hr'
    exact .inl ⟨_, _, rfl, q _ _ (repA_int _) g⟩
  · obtain ⟨ns, e, l, g⟩ := g
    obtain ⟨v, rfl, hr⟩ := h.one
    cases hr with
    | node h1 h2 h3 =>
      obtain ⟨rfl, _⟩ := intsD_rep h3 e
      exact .inr ⟨_, ns, rfl, SqL.of h1, l, fun m a b => q _ _ (repA_int _) (g m a b)⟩
  · exact g.elim
theorem sc_max {K : PySem.W.Frag} : ScC K (fun xs H Q => (∃ i j, xs = [.int i, .int j] ∧ Q (.int (if j > i then j else i)) H) ∨ rMax K xs H Q) gMax := fun H vs ds k Q h g q => by
  unfold gMax at g
  split at g
  · obtain ⟨v, w, rfl, hr, hr'⟩ := h.two
    cases hr
    cases hr'
    exact .inl ⟨_, _, rfl, q _ _ (repA_int _) g⟩
  · obtain ⟨ns, e, l, g⟩ := g
    obtain ⟨v, rfl, hr⟩ := h.one
    cases hr with
    | node h1 h2 h3 =>
      obtain ⟨rfl, _⟩ := intsD_rep h3 e
      exact .inr ⟨_, ns, rfl, SqL.of h1, l, fun m a b => q _ _ (repA_int _) (g m a b)⟩
  · exact g.elim
section
variable {X : Cx} {a b e : Expr} {es : List Expr} {pos p : Pos} {pa pb : PX} {ps : PAs} {k : Nat} {x : Str} {id T' : String} {r : List V → Hp → VK → Prop} {g : List D → (D → Prop) → Prop}
theorem d_callTy (hc : CallR X (.type T') r) (sc : ScC X.K r g) (mg : MonoC g) (hg : Gl X x) (hm : X.mg x = none) (hv : bootBuiltins x = some (.type T')) (h : PDA X (e :: es) ps) (hn : x ≠ "__name__" := by decide) (hdb : (x == ("__debug__" : Str)) = false := by decide)
    (he : starEach (e :: es) X.env = (false, eval e X.env) :: starEach es X.env := by rfl) (hpl : (backTo pos (starEach es X.env)).any (·.1) = false := by rfl) : PD X (.Call (.Name x p) (e :: es) [] pos) (pCB g ps) :=
  ⟨PE.weak (pe_callTy hc hg hm hv h.run hn hdb he hpl) (callS sc h), callS_mono mg h⟩
variable (h : PDA X (e :: es) ps) (he : starEach (e :: es) X.env = (false, eval e X.env) :: starEach es X.env := by rfl) (hpl : (backTo pos (starEach es X.env)).any (·.1) = false := by rfl)
theorem d_len (hg : Gl X "len") (hm : X.mg "len" = none) (h : PDA X (e :: es) ps) (he : starEach (e :: es) X.env = (false, eval e X.env) :: starEach es X.env := by rfl) (hpl : (backTo pos (starEach es X.env)).any (·.1) = false := by rfl) : PD X (.Call (.Name "len" p) (e :: es) [] pos) (pCB gLen ps) := d_callB call_lenU sc_len mono_len hg hm PySem.boot_len h (by decide) (by decide) he hpl
theorem d_intc (hg : Gl X "int") (hm : X.mg "int" = none) (h : PDA X (e :: es) ps) (he : starEach (e :: es) X.env = (false, eval e X.env) :: starEach es X.env := by rfl) (hpl : (backTo pos (starEach es X.env)).any (·.1) = false := by rfl) : PD X (.Call (.Name "int" p) (e :: es) [] pos) (pCB gInt ps) := d_callTy call_int1 sc_int mono_int hg hm (by decide +kernel) h (by decide) (by decide) he hpl
theorem d_abs (hg : Gl X "abs") (hm : X.mg "abs" = none) (h : PDA X (e :: es) ps) (he : starEach (e :: es) X.env = (false, eval e X.env) :: starEach es X.env := by rfl) (hpl : (backTo pos (starEach es X.env)).any (·.1) = false := by rfl) : PD X (.Call (.Name "abs" p) (e :: es) [] pos) (pCB gAbs ps) := d_callB call_abs sc_abs mono_abs hg hm (by decide +kernel) h (by decide) (by decide) he hpl
theorem d_sum (hc : X.calm = true) (hg : Gl X "sum") (hm : X.mg "sum" = none) (h : PDA X (e :: es) ps) (he : starEach (e :: es) X.env = (false, eval e X.env) :: starEach es X.env := by rfl) (hpl : (backTo pos (starEach es X.env)).any (·.1) = false := by rfl) : PD X (.Call (.Name "sum" p) (e :: es) [] pos) (pCB gSum ps) := d_callB (cr_sum hc) sc_sum mono_sum hg hm (by decide +kernel) h (by decide) (by decide) he hpl
theorem d_min (hc : X.calm = true) (hg : Gl X "min") (hm : X.mg "min" = none) (h : PDA X (e :: es) ps) (he : starEach (e :: es) X.env = (false, eval e X.env) :: starEach es X.env := by rfl) (hpl : (backTo pos (starEach es X.env)).any (·.1) = false := by rfl) : PD X (.Call (.Name "min" p) (e :: es) [] pos) (pCB gMin ps) := d_callB ((call_min2 hc).or (cr_min hc)) sc_min mono_min hg hm (by decide +kernel) h (by decide) (by decide) he hpl
theorem d_max (hc : X.calm = true) (hg : Gl X "max") (hm : X.mg "max" = none) (h : PDA X (e :: es) ps) (he : starEach (e :: es) X.env = (false, eval e X.env) :: starEach es X.env := by rfl) (hpl : (backTo pos (starEach es X.env)).any (·.1) = false := by rfl) : PD X (.Call (.Name "max" p) (e :: es) [] pos) (pCB gMax ps) := d_callB ((call_max2 hc).or (cr_max hc)) sc_max mono_max hg hm (by decide +kernel) h (by decide) (by decide) he hpl
end

/-! ### calls of one argument that make an object of its items -/
def pC1 (g : T → (T → Prop) → Prop) (p : PX) : PX := fun env k => p env fun r => ∃ t, r.mv env = some t ∧ g t fun t => k (.va t)
abbrev MonoT (g : T → (T → Prop) → Prop) : Prop := ∀ (t : T) {P Q : T → Prop}, (∀ b, P b → Q b) → g t P → g t Q
def Ok1 (K : PySem.W.Frag) (r : List V → Hp → VK → Prop) (g : T → (T → Prop) → Prop) : Prop :=
  ∀ (S B H : Hp) (x : V) (a : T) (F : List Addr) (Q : VK) (k : T → Prop), Ex S B → Ex B H → Own K S H x a F → (∀ p ∈ F.tail, B p = none) → g a k →
    (∀ (t : T) (S' B' : Hp) (v : V) (H' : Hp) (F' : List Addr), Add2 S B H S' B' H' (fun p => p ∈ F.tail) → Own K S' H' v t F' → (∀ p ∈ F', (p ∈ F.tail ∨ H p = none) ∧ B' p = none) → k t → Q v H') → r [x] H Q
section
variable {X : Cx} {a b e : Expr} {es : List Expr} {pos p : Pos} {pa pb : PX} {ps : PAs} {k : Nat} {x : Str} {id T' : String} {r : List V → Hp → VK → Prop} {g : T → (T → Prop) → Prop}
theorem call1 (ok : Ok1 X.K r g) (h : PD X a pa) (σ : L2.St) (H : Hp) (Q : VK) (q : tD X.K (pC1 g pa) σ H Q) : tCB r (tCons (tD X.K pa) tNil) σ H Q := by
  obtain ⟨S, B, env, sr, q⟩ := q
  refine ⟨S, B, env, sr, h.mono env (fun ra ⟨t, et, q⟩ S1 B1 v H1 g1 r1 => ?_) q⟩
  obtain ⟨F, o, na⟩ := r1.mvd (sr.gro g1) g1.h (Gro.refl g1.sb g1.bh) et
  refine ok S1 B1 H1 v t F Q _ g1.sb g1.bh o (fun p hp => (na p hp).2.1) q fun t S' B' v H' F' ad o' fr kt => ?_
  have fresh : ∀ p, p ∈ F.tail ∨ H1 p = none → H p = none ∧ B1 p = none := fun p hp => by
    rcases hp with z | z
    · exact ⟨(na p z).1, (na p z).2.1⟩
    · exact ⟨ex_none g1.h z, ex_none g1.bh z⟩
  refine kt S' B' v H' ⟨g1.h.trans ad.h, ⟨g1.e.s.trans ad.s, g1.e.b.trans ad.b, fun p a b => ?_⟩, fun p a b => ?_, ad.sb, ad.bh⟩ ⟨F', o', fun p hp => ⟨(fresh p (fr p hp).1).1, (fr p hp).2⟩⟩
  · cases z : S1 p with
    | none => exact ex_none g1.e.b (fresh p (ad.sn p a z)).2
    | some o => exact g1.e.n p (by rw [z]; exact fun z => nomatch z) b
  · cases z : B1 p with
    | none => exact (fresh p (ad.bn p a z)).1
    | some o => exact g1.n p (by rw [z]; exact fun z => nomatch z) b
theorem call1_mono (mg : MonoT g) (h : PD X a pa) : Mono (pC1 g pa) := fun env P Q f q => h.mono env (fun r ⟨t, et, q⟩ => ⟨t, et, mg _ (fun t q => f _ q) q⟩) q
theorem d_callB1 (hc : CallR X (.builtin id) r) (ok : Ok1 X.K r g) (mg : MonoT g) (hg : Gl X x) (hm : X.mg x = none) (hv : bootBuiltins x = some (.builtin id)) (h : PD X a pa) (hn : x ≠ "__name__" := by decide) (hdb : (x == ("__debug__" : Str)) = false := by decide)
    (he : starEach [a] X.env = (false, eval a X.env) :: starEach [] X.env := by rfl) : PD X (.Call (.Name x p) [a] [] pos) (pC1 g pa) :=
  ⟨PE.weak (pe_callB hc hg hm hv (pa_cons h.run pa_nil he) hn hdb he rfl) (call1 ok h), call1_mono mg h⟩
theorem d_callTy1 (hc : CallR X (.type T') r) (ok : Ok1 X.K r g) (mg : MonoT g) (hg : Gl X x) (hm : X.mg x = none) (hv : bootBuiltins x = some (.type T')) (h : PD X a pa) (hn : x ≠ "__name__" := by decide) (hdb : (x == ("__debug__" : Str)) = false := by decide)
    (he : starEach [a] X.env = (false, eval a X.env) :: starEach [] X.env := by rfl) : PD X (.Call (.Name x p) [a] [] pos) (pC1 g pa) :=
  ⟨PE.weak (pe_callTy hc hg hm hv (pa_cons h.run pa_nil he) hn hdb he rfl) (call1 ok h), call1_mono mg h⟩
end
def gList (t : T) (k : T → Prop) : Prop := match t.kids with
  | some (.lst, ts) => k (.node .lst ts)
  | some (.tup, ts) => k (.node .lst ts)
  | some (.ro, ts) => k (.node .lst ts)
  | _ => False
def gTuple (t : T) (k : T → Prop) : Prop := match t.kids with
  | some (.lst, ts) => k (.s (.node .tup (ts.map T.er)))
  | some (.tup, ts) => k (.s (.node .tup (ts.map T.er)))
  | some (.ro, ts) => k (.s (.node .tup (ts.map T.er)))
  | _ => False
/-- sorted, of whole numbers -/
def gSortI (t : T) (k : T → Prop) : Prop := match t.kids with
  | some (.lst, ts) => ∃ ns : List Int, ts = ns.map (fun n => T.s (.int n)) ∧ ∀ ns' : List Int, ns'.Perm ns → ns'.Pairwise (· ≤ ·) → k (.node .lst (ns'.map fun n => T.s (.int n)))
  | _ => False
theorem mono_list : MonoT gList := fun t P Q f h => by
  unfold gList at h ⊢
  split at h
  · exact f _ h
  · exact f _ h
  · exact f _ h
  · exact h.elim
theorem mono_tuple : MonoT gTuple := fun t P Q f h => by
  unfold gTuple at h ⊢
  split at h
  · exact f _ h
  · exact f _ h
  · exact f _ h
  · exact h.elim
theorem mono_sortI : MonoT gSortI := fun t P Q f h => by
  unfold gSortI at h ⊢
  split at h
  · obtain ⟨ns, a, h⟩ := h
    exact ⟨ns, a, fun m x y => f _ (h m x y)⟩
  · exact h.elim
theorem NodeR.sq {K : PySem.W.Frag} {H : Hp} {p : Addr} {vs : List V} {sh : Shape} (h : NodeR K H p sh vs) (e : sh = .lst ∨ sh = .tup ∨ sh = .ro) : SqL K H p vs ∨ SqT K H p vs := by
  rcases e with rfl | rfl | rfl
  · exact .inl (SqL.of h)
  · exact .inr (SqT.of h)
  · exact .inl h
theorem ok_list {K : PySem.W.Frag} : Ok1 K (fun xs H Q => ∃ p ys, xs = [.ref p] ∧ (SqL K H p ys ∨ SqT K H p ys) ∧ ∀ l, H l = none → Q (.ref l) (upd H l (.lst ys))) gList := fun S B H x a F Q k sb bh o nb g q => by
  have fin : ∀ {sh : Shape} {ts : List T}, a.kids = some (sh, ts) → (sh = .lst ∨ sh = .tup ∨ sh = .ro) → k (.node .lst ts) → ∃ p ys, [x] = [V.ref p] ∧ (SqL K H p ys ∨ SqT K H p ys) ∧ ∀ l, H l = none → Q (.ref l) (upd H l (.lst ys)) := fun hk e g => by
    obtain ⟨p, vs, rfl, hn, hz, ol⟩ := o.kids (sb.trans bh) hk
    refine ⟨p, vs, rfl, hn.sq e, fun l hl => ?_⟩
    refine q _ S B _ _ _ (.new sb bh hl) (own_new ol hl hz) (fun z hz => ?_) g
    cases hz with
    | head => exact ⟨.inr hl, ex_none bh hl⟩
    | tail _ hz => exact ⟨.inl hz, nb z hz⟩
  unfold gList at g
  split at g
  · rename_i ts hk
    exact fin hk (.inl rfl) g
  · rename_i ts hk
    exact fin hk (.inr (.inl rfl)) g
  · rename_i ts hk
    exact fin hk (.inr (.inr rfl)) g
  · exact g.elim
/-- items frozen into a new tuple -/
theorem tup_new {K : PySem.W.Frag} {S B H : Hp} {ts : List T} {vs : List V} {F : List Addr} {l : Addr} (sb : Ex S B) (bh : Ex B H) (ol : OwnL K S H vs ts F) (nb : ∀ p ∈ F, B p = none) (hz : vs.length ≤ sizeLine) (hl : H l = none) :
    ∃ S' B', Add2 S B H S' B' (upd H l (.tup vs)) (fun p => p ∈ F) ∧ Rep K S' (.ref l) (.node .tup (ts.map T.er)) := by
  have sh := sb.trans bh
  have rp : RepL K (joinF S H F) vs (ers ts) := ol.frz (ex_joinF sh) fun z hz => joinF_in hz
  have s1 : Ex (joinF S H F) (joinF B H F) := joinF_two sb
  have b1 : Ex (joinF B H F) H := joinF_ex bh
  have g2 := Gro.newS (o := .tup vs) s1 b1 hl
  refine ⟨_, _, ⟨g2.h, (ex_joinF sh).trans g2.e.s, (ex_joinF bh).trans g2.e.b, g2.sb, g2.bh, fun p a b => ?_, fun p a b => ?_⟩, .node (sh := .tup) upd_same hz (by rw [← ers_map]; exact rp.mono g2.e.s)⟩
  · by_cases hp : p ∈ F
    · exact .inl hp
    · by_cases e : p = l
      · exact .inr (by rw [e]; exact hl)
      · rw [upd_ne e, joinF_out hp] at a
        exact absurd b a
  · by_cases hp : p ∈ F
    · exact .inl hp
    · by_cases e : p = l
      · exact .inr (by rw [e]; exact hl)
      · rw [upd_ne e, joinF_out hp] at a
        exact absurd b a
theorem ok_tuple {K : PySem.W.Frag} : Ok1 K (fun xs H Q => ∃ p ys, xs = [.ref p] ∧ ((SqL K H p ys ∧ ∀ l, H l = none → Q (.ref l) (upd H l (.tup ys))) ∨ (SqT K H p ys ∧ Q (.ref p) H))) gTuple := fun S B H x a F Q k sb bh o nb g q => by
  unfold gTuple at g
  split at g
  · rename_i ts hk
    obtain ⟨p, vs, rfl, hn, hz, ol⟩ := o.kids (sb.trans bh) hk
    refine ⟨p, vs, rfl, .inl ⟨SqL.of hn, fun l hl => ?_⟩⟩
    obtain ⟨S', B', ad, rp⟩ := tup_new sb bh ol nb hz hl
    exact q _ S' B' _ _ [] ad (.s rp) (fun _ z => nomatch z) g
  · rename_i ts hk
    obtain ⟨p, vs, ds, rfl, h1, rfl, rfl, h3, h4⟩ := kids_tup o hk
    rw [er_s_map] at g
    exact ⟨p, vs, rfl, .inr ⟨SqT.of (sb.trans bh _ _ h1), q _ S B _ _ [] (.refl sb bh) (.s (.node (sh := .tup) h1 h4 h3)) (fun _ z => nomatch z) g⟩⟩
  · rename_i ts hk
    obtain ⟨p, vs, rfl, hn, hz, ol⟩ := o.kids (sb.trans bh) hk
    refine ⟨p, vs, rfl, .inl ⟨hn, fun l hl => ?_⟩⟩
    obtain ⟨S', B', ad, rp⟩ := tup_new sb bh ol nb hz hl
    exact q _ S' B' _ _ [] ad (.s rp) (fun _ z => nomatch z) g
  · exact g.elim
theorem repL_ints {K : PySem.W.Frag} {S : Hp} : ∀ ns : List Int, RepL K S (ns.map V.int) (ns.map D.int)
  | [] => .nil
  | n :: ns => .cons (.int n) (repL_ints ns)
theorem map_s {α : Type} (f : α → D) (xs : List α) : (xs.map fun x => T.s (f x)) = (xs.map f).map T.s := by
  rw [List.map_map]
  rfl
theorem ok_sortI {K : PySem.W.Frag} : Ok1 K (rSortedI K) gSortI := fun S B H x a F Q k sb bh o nb g q => by
  unfold gSortI at g
  split at g
  · rename_i ts hk
    obtain ⟨ns, rfl, g⟩ := g
    obtain ⟨p, vs, rfl, hn, hz, ol⟩ := o.kids (sb.trans bh) hk
    rw [map_s] at ol
    obtain ⟨rp, _⟩ := OwnL.unsh ol
    obtain ⟨rfl, _⟩ := intsD_rep rp (intsD_map ns)
    refine ⟨p, ns, rfl, SqL.of hn, fun ns' l h1 h2 hl => ?_⟩
    have hz' : (ns'.map V.int).length ≤ sizeLine := by
      rw [List.length_map, h1.length_eq]
      rwa [List.length_map] at hz
    have kk := g ns' h1 h2
    rw [map_s] at kk
    refine q _ S B _ _ _ (.new sb bh hl) (own_new (OwnL.sh (repL_ints ns')) hl hz') (fun z hz => ?_) kk
    cases hz with
    | head => exact ⟨.inr hl, ex_none bh hl⟩
    | tail _ hz => cases hz
  · exact g.elim
section
variable {X : Cx} {a b e : Expr} {es : List Expr} {pos p : Pos} {pa pb : PX}
theorem d_list (hg : Gl X "list") (hm : X.mg "list" = none) (h : PD X a pa) (he : starEach [a] X.env = (false, eval a X.env) :: starEach [] X.env := by rfl) : PD X (.Call (.Name "list" p) [a] [] pos) (pC1 gList pa) := d_callTy1 call_list_of ok_list mono_list hg hm (by decide +kernel) h (by decide) (by decide) he
theorem d_tuple (hg : Gl X "tuple") (hm : X.mg "tuple" = none) (h : PD X a pa) (he : starEach [a] X.env = (false, eval a X.env) :: starEach [] X.env := by rfl) : PD X (.Call (.Name "tuple" p) [a] [] pos) (pC1 gTuple pa) := d_callTy1 call_tuple_of ok_tuple mono_tuple hg hm (by decide +kernel) h (by decide) (by decide) he
theorem d_sorted (hg : Gl X "sorted") (hm : X.mg "sorted" = none) (h : PD X a pa) (he : starEach [a] X.env = (false, eval a X.env) :: starEach [] X.env := by rfl) : PD X (.Call (.Name "sorted" p) [a] [] pos) (pC1 gSortI pa) := d_callB1 cr_sortedI ok_sortI mono_sortI hg hm (by decide +kernel) h (by decide) (by decide) he
end

/-! ### isinstance, of a built-in class -/
def tyD : D → Option String
  | .non => some "NoneType"
  | .bl _ => some "bool"
  | .int _ => some "int"
  | .str _ => some "str"
  | .node .lst _ => some "list"
  | .node .ro _ => some "list"
  | .node .tup _ => some "tuple"
  | .node (.dK _) _ => some "dict"
  | _ => none
def isiT (T ty : String) : Bool := (ty == T) || (T == "int" && ty == "bool")
def isiTs : List String := ["int", "bool", "str", "list", "tuple", "dict"]
theorem kit_tab : ∀ T ∈ isiTs, ∀ ty ∈ ["NoneType", "bool", "int", "str", "list", "tuple", "dict"], kitB ty T = some (isiT T ty) := by decide +kernel
theorem tyD_mem {d : D} {ty : String} (h : tyD d = some ty) : ty ∈ ["NoneType", "bool", "int", "str", "list", "tuple", "dict"] := by
  unfold tyD at h
  split at h <;> first | (cases h; simp) | cases h
def pIsi (T : String) (pa : PX) : PX := fun env k => pa env fun r => ∃ t ty, r.tr env = some t ∧ tyD t.er = some ty ∧ k (.va (.s (.bl (isiT T ty))))
theorem tyX_of {K : PySem.W.Frag} {H : Hp} {v : V} {d : D} {ty : String} (h : Rep K H v d) (e : tyD d = some ty) : TyX K H v (.type ty) := by
  cases h with
  | non => cases e; exact .base .non
  | bl => cases e; exact .base (.bl _)
  | int => cases e; exact .base (.int _)
  | str => cases e; exact .base (.str _)
  | @node p sh vs ds h1 h2 h3 =>
    cases sh with
    | lst => cases e; exact .base (.lst h1)
    | tup => cases e; exact .base (.tup h1)
    | ro =>
      cases e
      rcases h1 with (h1 | ⟨o, h1⟩) | ⟨o, its, n, k, c, _⟩
      · exact .base (.lst h1)
      · exact .base (.frz h1)
      · exact .kList k c
    | dK ks =>
      cases e
      rcases h1.2 with h1 | ⟨o, h1⟩
      · exact .base (.dK h1)
      · exact .fDict h1
    | dT ks => cases e
    | obj C ns => cases e
section
variable {X : Cx} {a : Expr} {pos p p' : Pos} {pa : PX} {x : Str} {T' : String}
theorem d_isi (hT : T' ∈ isiTs) (hg : Gl X "isinstance") (hm : X.mg "isinstance" = none) (hgT : Gl X x) (hmT : X.mg x = none) (hvT : bootBuiltins x = some (.type T')) (h : PD X a pa) (hn : x ≠ "__name__" := by decide) (hdb : (x == ("__debug__" : Str)) = false := by decide)
    (he : starEach [a, .Name x p'] X.env = (false, eval a X.env) :: starEach [.Name x p'] X.env := by rfl) (hpl : (backTo pos (starEach [.Name x p'] X.env)).any (·.1) = false := by rfl) (he2 : starEach [.Name x p'] X.env = (false, eval (.Name x p') X.env) :: starEach [] X.env := by rfl) :
    PD X (.Call (.Name "isinstance" p) [a, .Name x p'] [] pos) (pIsi T' pa) := by
  refine ⟨PE.weak (pe_callB call_isi hg hm (by decide +kernel) (pa_cons h.run (pa_cons (pe_bltn (v := .ty T') hgT hmT hvT rfl hn hdb) pa_nil he2) he) (by decide) (by decide) he hpl) fun σ H Q ⟨S, B, env, sr, q⟩ => ⟨S, B, env, sr, h.mono env (fun ra ⟨t, ty, et, e2, q⟩ S1 B1 v H1 g1 r1 => ?_) q⟩, fun env P Q f q => h.mono env (fun r ⟨t, ty, et, e2, q⟩ => ⟨t, ty, et, e2, f _ q⟩) q⟩
  have rp := r1.rep (sr.gro g1) et
  exact ⟨v, .ty T', .type ty, .type T', _, rfl, .ty T', tyX_of rp e2, kit_ty (kit_tab _ hT _ (tyD_mem e2)), q S1 B1 _ H1 g1 (RR.sc (.bl _))⟩
end
end PL

/-! The pure layer, part 7: the promise of a def, its call. -/
namespace PL
open PySem L2

def argCell (v : V) : T → Cell
  | .s d => .own none (.s d)
  | .node sh ks => .own (some v) (.node sh ks)
def argCells : List V → List T → En
  | v :: vs, t :: ts => argCell v t :: argCells vs ts
  | _, _ => []
/-- a def by its arguments, told to whoever wants its result and what has become of the arguments -/
abbrev FSp := List T → (T → List T → Prop) → Prop
def spF (K : PySem.W.Frag) (sp : FSp) : Sp := fun vs H Q _ => ∃ S B ts, SR K S B H (vs.map some) (argCells vs ts) ∧ vs.length = ts.length ∧ sp ts fun t outs => ∀ S' B' v H', Evo S B S' B' → SR K S' B' H' (some v :: vs.map some) (.own none t :: argCells vs outs) → Q v H'
mutual
def immD : D → Bool
  | .node .tup ds => immDs ds
  | .node _ _ => false
  | _ => true
def immDs : List D → Bool
  | [] => true
  | d :: ds => immD d && immDs ds
end
mutual
def immT : T → Bool
  | .s d => immD d
  | .node _ ts => immTs ts
def immTs : List T → Bool
  | [] => true
  | t :: ts => immT t && immTs ts
end
def anyBo : List R → Bool
  | [] => false
  | .bo _ _ :: _ => true
  | .va _ :: rs => anyBo rs
section
variable {K : PySem.W.Frag} {S S2 H : Hp}
mutual
theorem Rep.imm (e : ∀ p vs, S p = some (.tup vs) → S2 p = some (.tup vs)) : ∀ {d : D} {v : V}, Rep K S v d → immD d = true → Rep K S2 v d
  | .non, _, h, _ => by cases h; exact .non
  | .bl _, _, h, _ => by cases h; exact .bl _
  | .int _, _, h, _ => by cases h; exact .int _
  | .str _, _, h, _ => by cases h; exact .str _
  | .node .tup ds, _, h, i => by
    cases h with
    | node h1 h2 h3 => exact .node (sh := .tup) (e _ _ h1) h2 (RepL.imm e h3 (by simpa [immD] using i))
  | .node .lst _, _, _, i => by simp [immD] at i
  | .node .ro _, _, _, i => by simp [immD] at i
  | .node (.dK _) _, _, _, i => by simp [immD] at i
  | .node (.dT _) _, _, _, i => by simp [immD] at i
  | .node (.obj _ _) _, _, _, i => by simp [immD] at i
theorem RepL.imm (e : ∀ p vs, S p = some (.tup vs) → S2 p = some (.tup vs)) : ∀ {ds : List D} {vs : List V}, RepL K S vs ds → immDs ds = true → RepL K S2 vs ds
  | [], _, h, _ => by cases h; exact .nil
  | d :: ds, _, h, i => by
    have i' : immD d = true ∧ immDs ds = true := by simpa [immDs] using i
    cases h with
    | cons h1 h2 => exact .cons (Rep.imm e h1 i'.1) (RepL.imm e h2 i'.2)
end
mutual
theorem Own.imm (e : ∀ p vs, S p = some (.tup vs) → S2 p = some (.tup vs)) : ∀ {t : T} {v : V} {F : List Addr}, Own K S H v t F → immT t = true → Own K S2 H v t F
  | .s _, _, _, h, i => by
    cases h with
    | s h => exact .s (h.imm e (by simpa [immT] using i))
  | .node _ _, _, _, h, i => by
    cases h with
    | node h1 h2 h3 h4 h5 => exact .node h1 h2 h3 (OwnL.imm e h4 (by simpa [immT] using i)) h5
theorem OwnL.imm (e : ∀ p vs, S p = some (.tup vs) → S2 p = some (.tup vs)) : ∀ {ts : List T} {vs : List V} {F : List Addr}, OwnL K S H vs ts F → immTs ts = true → OwnL K S2 H vs ts F
  | [], _, _, h, _ => by cases h; exact .nil
  | t :: ts, _, _, h, i => by
    have i' : immT t = true ∧ immTs ts = true := by simpa [immTs] using i
    cases h with
    | cons h1 h2 h3 => exact .cons (Own.imm e h1 i'.1) (OwnL.imm e h2 i'.2) h3
end
end
section
variable {K : PySem.W.Frag} {S B H S' B' H' S1 B1 H1 Sc : Hp} {σ : L2.St} {env : En} {v : V} {r : R} {t : T} {F G Gs : List Addr}
/-- a borrowed tree is frozen with its slot -/
theorem bo_sh {i : Nat} {π : List Nat} (h : RR K S' B' H H' σ v (.bo i π)) (sl : SlotsOk K S' B' H' env σ Gs) (e : look env i π = some t) (es : Ex S' Sc) (k : ∀ p ∈ Gs, Sc p = H' p) : Rep K Sc v t.er := by
  obtain ⟨v0, e0, q⟩ := h
  have e' : (env[i]?).bind (fun c => c.tr.bind fun t => t.at π) = some t := e
  cases hc : env[i]? with
  | none => rw [hc] at e'; cases e'
  | some c =>
    rw [hc] at e'
    obtain ⟨ov, F, s1, s2, s3, _⟩ := sl.focus hc
    rw [e0] at s1
    cases s1
    cases c with
    | un => cases e'
    | own pin u =>
      obtain ⟨v', z1, z2, o, z3⟩ := s2
      cases z1
      obtain ⟨w, F', a1, a2, a3⟩ := o.path (show u.at π = some t from e')
      cases a1.inj q
      exact a2.frz es fun p hp => k p (s3 p (a3 p hp))
    | lk F0 u =>
      obtain ⟨_, v', z1, o, z3⟩ := s2
      cases z1
      obtain ⟨w, F', a1, a2, a3⟩ := o.path (show u.at π = some t from e')
      cases a1.inj q
      exact a2.frz es fun p hp => k p (s3 p (a3 p hp))
theorem RRs.sh (sl : SlotsOk K S1 B1 H1 env σ Gs) (es : Ex S1 Sc) : ∀ {vs : List V} {rs : List R} {G : List Addr} {ds : List D}, RRs K S1 B1 H H1 σ vs rs G → datsR env rs = some ds → (∀ p ∈ G, Sc p = H1 p) → (anyBo rs = true → ∀ p ∈ Gs, Sc p = H1 p) → RepL K Sc vs ds
  | _, _, _, _, .nil, e, _, _ => by cases e; exact .nil
  | _, _, _, ds, @RRs.consT _ _ _ _ _ _ v vs t rs F G o q h d, e, k1, k2 => by
    have e' : (match some t, datsR env rs with
      | some t, some ds => some (t.er :: ds)
      | _, _ => none) = some ds := e
    cases z : datsR env rs with
    | none => rw [z] at e'; cases e'
    | some us =>
      rw [z] at e'
      cases e'
      exact .cons (o.frz es fun p hp => k1 p (List.mem_append_left _ hp)) (RRs.sh sl es h z (fun p hp => k1 p (List.mem_append_right _ hp)) k2)
  | _, _, _, ds, @RRs.consB _ _ _ _ _ _ v v0 vs i π rs G e0 a h, e, k1, k2 => by
    have e' : (match look env i π, datsR env rs with
      | some t, some ds => some (t.er :: ds)
      | _, _ => none) = some ds := e
    cases y : look env i π with
    | none => rw [y] at e'; cases e'
    | some t =>
      cases z : datsR env rs with
      | none => rw [y, z] at e'; cases e'
      | some us =>
        rw [y, z] at e'
        cases e'
        have rr : RR K S1 B1 H H1 σ v (.bo i π) := ⟨v0, e0, a⟩
        exact .cons (bo_sh rr sl y es (k2 rfl)) (RRs.sh sl es h z k1 fun _ => k2 rfl)
theorem SlotOk.out {c : Cell} {ov : Option V} (h : SlotOk K S B H c ov F) (sb : Ex S B) : ∀ p ∈ F, S p = none := by
  cases c with
  | un => intro p hp; cases h; cases hp
  | own pin t =>
    obtain ⟨v, e1, e2, o, q⟩ := h
    exact fun p hp => ex_none sb (q p hp)
  | lk F0 t =>
    obtain ⟨_, v, e1, o, q⟩ := h
    exact fun p hp => (q p hp).2
theorem SlotsOk.out (sb : Ex S B) : ∀ {env : En} {σ : L2.St} {Gs : List Addr}, SlotsOk K S B H env σ Gs → ∀ p ∈ Gs, S p = none
  | _, _, _, .nil, _, hp => nomatch hp
  | _, _, _, .cons h1 h2 h3, p, hp => (List.mem_append.mp hp).elim (h1.out sb p) (SlotsOk.out sb h2 p)
theorem args_sh : ∀ {vs : List V} {ds : List D}, RepL K S vs ds → SlotsOk K S B H (argCells vs (ds.map T.s)) (vs.map some) []
  | _, _, .nil => .nil
  | _, _, .cons h1 h2 => .cons (F := []) (G := []) ⟨_, rfl, (fun _ z => nomatch z), Own.s h1, (fun _ z => nomatch z)⟩ (args_sh h2) fun _ z => nomatch z
/-- behind a call of a def all of whose arguments are only read -/
theorem call_back {vs : List V} {rs : List R} {cs : En} (sr : SR K S1 B1 H1 σ env) (sl : SlotsOk K S1 B1 H1 env σ Gs) (g1 : Gro S B H S1 B1 H1) (r : RRs K S1 B1 H H1 σ vs rs G)
    (ev : Evo (joinF S1 H1 (G ++ if anyBo rs then Gs else [])) H1 S' B') (sr' : SR K S' B' H' (some v :: vs.map some) (.own none t :: cs)) (im : anyBo rs = true → immT t = true) : ∃ S2 B2, Gro S B H S2 B2 H' ∧ RR K S2 B2 H H' σ v (.va t) := by
  generalize hFb : (if anyBo rs then Gs else []) = Fb at ev
  have hsub : ∀ p ∈ Fb, p ∈ Gs := fun p hp => by
    rw [← hFb] at hp
    split at hp
    · exact hp
    · cases hp
  have fb0 : ∀ p ∈ Fb, S1 p = none := fun p hp => SlotsOk.out sr.sb sl p (hsub p hp)
  have fbM : ∀ p ∈ Fb, ∃ o, H1 p = some o ∧ Mut (some o) := fun p hp => sl.ne p (hsub p hp)
  have hG : ∀ p ∈ G, H p = none ∧ B1 p = none ∧ H1 p ≠ none := fun p hp => by
    obtain ⟨o, a, b, c⟩ := r.dom p hp
    exact ⟨b, c, by rw [a]; exact fun z => nomatch z⟩
  have e1 : Ex H1 H' := ev.b.trans sr'.bh
  have ex1 : Ex H H' := g1.h.trans e1
  let S2 : Hp := fun p => if p ∈ Fb then none else S' p
  have S2in : ∀ {p}, p ∈ Fb → S2 p = none := fun h => if_pos h
  have S2out : ∀ {p}, p ∉ Fb → S2 p = S' p := fun h => if_neg h
  have S2le : Ex S2 S' := fun p o q => by
    by_cases hp : p ∈ Fb
    · rw [S2in hp] at q; cases q
    · rwa [S2out hp] at q
  let B2 : Hp := fun p => match S2 p with
    | some o => some o
    | none => joinF B1 H1 G p
  have B2s : ∀ {p o}, S2 p = some o → B2 p = some o := fun {p o} h => by
    show (match S2 p with
      | some o => some o
      | none => joinF B1 H1 G p) = some o
    rw [h]
  have B2n : ∀ {p}, S2 p = none → B2 p = joinF B1 H1 G p := fun {p} h => by
    show (match S2 p with
      | some o => some o
      | none => joinF B1 H1 G p) = _
    rw [h]
  have new : ∀ p, S2 p ≠ none → S1 p = none → p ∈ G ∨ H1 p = none := fun p a b => by
    by_cases hf : p ∈ Fb
    · exact absurd (S2in hf) a
    · rw [S2out hf] at a
      by_cases hg : p ∈ G
      · exact .inl hg
      · refine .inr (ev.n p a ?_)
        rw [joinF_out (by simp [hg, hf])]
        exact b
  obtain ⟨G0, sl0⟩ := sr'.sl
  cases sl0 with
  | @cons _ _ _ _ F G2 s1 s2 s3 =>
    obtain ⟨v', z1, _, o, nb⟩ := s1
    cases z1
    have fr : ∀ p ∈ F, H1 p = none := fun p hp => ex_none ev.b (nb p hp)
    refine ⟨S2, B2, ⟨ex1, ⟨fun p o q => ?_, fun p o q => ?_, fun p a b => ?_⟩, fun p a b => ?_, fun p o q => B2s q, fun p o q => ?_⟩, F, ?_, fun p hp => ⟨ex_none g1.h (fr p hp), ?_⟩⟩
    · have q1 := g1.e.s p o q
      have n1 : p ∉ Fb := fun z => by rw [fb0 p z] at q1; cases q1
      have n2 : p ∉ G := fun z => by
        have := g1.sb p o q1
        rw [(hG p z).2.1] at this
        cases this
      rw [S2out n1]
      refine ev.s p o ?_
      rw [joinF_out (by simp [n1, n2])]
      exact q1
    · have q1 := g1.e.b p o q
      have q2 := e1 p o (g1.bh p o q1)
      cases z : S2 p with
      | some u =>
        rw [B2s z]
        have := sr'.sh p u (S2le p u z)
        rw [q2] at this
        exact this.symm
      | none =>
        rw [B2n z]
        have n2 : p ∉ G := fun z => by rw [(hG p z).2.1] at q1; cases q1
        rw [joinF_out n2]
        exact q1
    · cases z : S1 p with
      | some u => exact g1.e.n p (by rw [z]; exact fun z => nomatch z) b
      | none =>
        rcases new p a z with y | y
        · exact ex_none g1.e.b (hG p y).2.1
        · exact ex_none g1.e.b (ex_none g1.bh y)
    · cases z : S2 p with
      | some u =>
        cases y : S1 p with
        | some w => exact g1.n p (by rw [g1.sb p w y]; exact fun z => nomatch z) b
        | none =>
          rcases new p (by rw [z]; exact fun z => nomatch z) y with x | x
          · exact (hG p x).1
          · exact ex_none g1.h x
      | none =>
        rw [B2n z] at a
        by_cases hg : p ∈ G
        · exact (hG p hg).1
        · rw [joinF_out hg] at a
          exact g1.n p a b
    · cases z : S2 p with
      | some u =>
        rw [B2s z] at q
        cases q
        exact sr'.sh p _ (S2le p _ z)
      | none =>
        rw [B2n z] at q
        by_cases hg : p ∈ G
        · rw [joinF_in hg] at q
          exact e1 p o q
        · rw [joinF_out hg] at q
          exact e1 p o (g1.bh p o q)
    · cases hb : anyBo rs with
      | false =>
        rw [hb] at hFb
        have hFb : Fb = [] := hFb.symm
        refine o.mono (fun p u q => ?_) fun _ _ => rfl
        rw [S2out (by rw [hFb]; exact fun z => nomatch z)]
        exact q
      | true =>
        refine o.imm (fun p ws q => ?_) (im hb)
        have n1 : p ∉ Fb := fun z => by
          obtain ⟨u, a, b⟩ := fbM p z
          have a := e1 p u a
          rw [sr'.sh p _ q] at a
          cases a
          exact b
        rw [S2out n1]
        exact q
    · have hn := nb p hp
      have z1 : S' p = none := ex_none sr'.sb hn
      have z : S2 p = none := ex_none S2le z1
      rw [B2n z]
      have n2 : p ∉ G := fun z => (hG p z).2.2 (fr p hp)
      rw [joinF_out n2]
      exact ex_none g1.bh (fr p hp)
end

/-- f(..), all arguments only read -/
def pCall (sp : FSp) (ps : PAs) : PX := fun env k => ps env fun rs => ∃ ds, datsR env rs = some ds ∧ sp (ds.map T.s) fun t _ => (anyBo rs = true → immT t = true) ∧ k (.va t)
abbrev MonoF (sp : FSp) : Prop := ∀ (ts : List T) {P Q : T → List T → Prop}, (∀ t us, P t us → Q t us) → sp ts P → sp ts Q
section
variable {X : Cx} {CX : CXT} {k : Nat} {f : Addr} {fd : FuncData} {ps : List Str} {sp : FSp} {E : XK} {x : Str} {p pos : Pos} {e : Expr} {es : List Expr} {pa : PAs}
theorem RRs.vlen {K : PySem.W.Frag} {S1 B1 H H1 : Hp} {σ : L2.St} {env : En} : ∀ {vs : List V} {rs : List R} {G : List Addr} {ds : List D}, RRs K S1 B1 H H1 σ vs rs G → datsR env rs = some ds → vs.length = ds.length
  | _, _, _, _, .nil, e => by cases e; rfl
  | _, _, _, ds, @RRs.consT _ _ _ _ _ _ v vs t rs F G o q h d, e => by
    have e' : (match some t, datsR env rs with
      | some t, some ds => some (t.er :: ds)
      | _, _ => none) = some ds := e
    cases z : datsR env rs with
    | none => rw [z] at e'; cases e'
    | some us =>
      rw [z] at e'
      cases e'
      rw [List.length_cons, List.length_cons, RRs.vlen h z]
  | _, _, _, ds, @RRs.consB _ _ _ _ _ _ v v0 vs i π rs G e0 a h, e => by
    have e' : (match look env i π, datsR env rs with
      | some t, some ds => some (t.er :: ds)
      | _, _ => none) = some ds := e
    cases y : look env i π with
    | none => rw [y] at e'; cases e'
    | some t =>
      cases z : datsR env rs with
      | none => rw [y, z] at e'; cases e'
      | some us =>
        rw [y, z] at e'
        cases e'
        rw [List.length_cons, List.length_cons, RRs.vlen h z]
theorem callF (mf : MonoF sp) (h : MonoA pa) {σ : L2.St} {H : Hp} {Q : VK} (q : tD X.K (pCall sp pa) σ H Q) : tCall (spF X.K sp) [] E (tDA X.K pa) σ H Q := by
  obtain ⟨S, B, env, sr, q⟩ := q
  refine ⟨S, B, env, sr, h env (fun rs ⟨ds, e, q⟩ S1 B1 vs H1 G g1 r1 => ?_) q⟩
  have sr1 := sr.gro g1
  obtain ⟨Gs, sl⟩ := sr1.sl
  show spF X.K sp (vs ++ []) H1 Q E
  rw [List.append_nil]
  have sh1 := sr1.sh
  refine ⟨joinF S1 H1 (G ++ if anyBo rs then Gs else []), H1, ds.map T.s, ⟨joinF_ex sh1, .refl _, [], args_sh (r1.sh sl (ex_joinF sh1) e (fun p hp => joinF_in (List.mem_append_left _ hp)) fun hb p hp => joinF_in (List.mem_append_right _ (by rw [hb]; exact hp)))⟩, by rw [List.length_map]; exact r1.vlen e, mf _ (fun t us ⟨im, q⟩ S' B' v H' ev sr' => ?_) q⟩
  obtain ⟨S2, B2, g2, r2⟩ := call_back sr1 sl g1 r1 ev sr' im
  exact q S2 B2 v H' g2 r2
theorem callF_mono (mf : MonoF sp) (h : MonoA pa) : Mono (pCall sp pa) := fun env P Q f q => h env (fun rs ⟨ds, e, q⟩ => ⟨ds, e, mf _ (fun t us ⟨im, q⟩ => ⟨im, f _ q⟩) q⟩) q
theorem d_call (F : FnOk X.prog X.w X.K X.mg X.base CX k f fd ps (spF X.K sp)) (mf : MonoF sp) (hr : Room k X.A) (hg : Gl X x) (hm : X.mg x = some (.ref f)) (hk : PySem.W.keepIn X.K (.ref f) = true) (hb : Binds X.K fd ps []) (hx : Passes CX X E) (h : PDA X (e :: es) pa)
    (hdb : (x == ("__debug__" : Str)) = false := by decide) (he : starEach (e :: es) X.env = (false, eval e X.env) :: starEach es X.env := by rfl) (hpl : (backTo pos (starEach es X.env)).any (·.1) = false := by rfl) : PD X (.Call (.Name x p) (e :: es) [] pos) (pCall sp pa) :=
  ⟨PE.weak (pe_call (E := E) F hr hg hm hk hb .nil hx h.run hdb he hpl) fun σ H Q q => callF mf h.mono q, callF_mono mf h.mono⟩
end
end PL

/-! The pure layer, part 8: what is walked, targets, comprehensions. -/
namespace PL
open PySem L2

/-! ### what is walked -/
structure ItD where
  items : List D
  lock : Option Nat
  src : Bool
abbrev PI' := En → (ItD → Prop) → Prop
abbrev MonoI (p : PI') : Prop := ∀ (env : En) {P Q : ItD → Prop}, (∀ r, P r → Q r) → p env P → p env Q
def JOk (K : PySem.W.Frag) (S Z : Hp) (ds : List D) (J : It) : Prop := ∀ (i : Nat) (S2 B2 H2 : Hp), Ex S S2 → Ex S2 B2 → Ex B2 H2 → Ex Z H2 →
  (i < ds.length → J.go i H2) ∧ (∀ x H3, i < ds.length → J.yld i H2 x H3 → ∃ S3 B3 d, Gro S2 B2 H2 S3 B3 H3 ∧ ds[i]? = some d ∧ Rep K S3 x d) ∧ (i = ds.length → J.stop i H2)
structure Lk (K : PySem.W.Frag) (S1 B1 H1 : Hp) (σ : L2.St) (env : En) (it : ItD) (J : It) (A : List Addr) : Prop where
  j : ∀ Z, Ex S1 Z → (∀ p ∈ A, Z p = H1 p) → JOk K S1 Z it.items J
  n : it.lock = none → A = []
  l : ∀ i, it.lock = some i → ∀ c ov F, env[i]? = some c → σ[i]? = some ov → SlotOk K S1 B1 H1 c ov F → ∀ p ∈ A, p ∈ F
  z : it.src = true → it.items.length ≤ sizeLine
def tDI (K : PySem.W.Frag) (p : PI') : TI := fun σ H R => ∃ S B env, SR K S B H σ env ∧ p env fun it => ∀ S' B' H' J A, Gro S B H S' B' H' → Lk K S' B' H' σ env it J A → R J H'
structure PDI (X : Cx) (tg e : Expr) (p : PI') : Prop where
  run : PI X tg e (tDI X.K p)
  mono : MonoI p
theorem PI.weak {X : Cx} {tg e : Expr} {t t' : TI} (h : PI X tg e t) (w : ∀ σ H R, t' σ H R → t σ H R) : PI X tg e t' := ⟨fun pins s σ H R I q => h.run pins s σ H R I (w _ _ _ q)⟩
def iSeq (K : PySem.W.Frag) (tl : TE) : TI := fun σ H R => tl σ H fun x H1 => ∃ a, x = .ref a ∧ (((∃ xs, SqL K H1 a xs) ∧ R (Itl K a) H1) ∨ ((∃ xs, SqT K H1 a xs) ∧ R (Itt K a) H1))
section
variable {X : Cx} {tg e a b c : Expr} {pa pb pc : PX} {p pos : Pos}
open PySem.Spec PyProof.Rows in
theorem pi_seq {tl : TE} (hl : PE X e tl) : PI X tg e (iSeq X.K tl) := by
  refine ⟨fun pins s σ H R I h => ?_⟩
  refine thn (hl.run pins s σ H _ I h) fun v s1 q1 => ?_
  obtain ⟨x, H1, I1, r1, a, e1, q⟩ := q1
  subst e1
  cases r1
  have fresh : ∀ b ∈ [s1.heap.objs.size], FpOk X pins H1 b := fun b hb => by
    cases List.mem_singleton.mp hb
    exact I1.fpOk (Nat.le_refl _) (I1.hok.fresh (Nat.le_refl _))
  rcases q with ⟨⟨xs, hq⟩, q⟩ | ⟨⟨xs, hq⟩, q⟩
  · obtain ⟨its, rv, p, hz⟩ := I1.list hq
    exact wpAny_pyIter_list p.isList ⟨_, _, _, _, H1, rfl, I1.kept (t' := s1.toks) fun b o e => Heap.get?_push_of_some _ e, turn_list a _, ⟨_, Heap.get?_push_size _ rfl, rfl, rfl⟩, fresh, q⟩
  · obtain ⟨its, rv, p, hz⟩ := I1.tuple hq
    exact wpAny_pyIter_tuple (show s1.heap.IsTuple a its.toArray from p) ⟨_, _, _, _, H1, rfl, I1.kept (t' := s1.toks) fun b o e => Heap.get?_push_of_some _ e, turn_tuple a _, ⟨_, Heap.get?_push_size _ rfl, rfl, rfl⟩, fresh, q⟩
end

/-- a node's place in the slot that it was read from -/
theorem bo_in {K : PySem.W.Frag} {S B H : Hp} {σ : L2.St} {env : En} {v : V} {i : Nat} {π : List Nat} {sh : Shape} {ts : List T} {a : Addr} (r : RR K S B H H σ v (.bo i π)) (e : look env i π = some (.node sh ts)) (ev : v = .ref a) {c : Cell} {ov : Option V} {F : List Addr}
    (ec : env[i]? = some c) (eo : σ[i]? = some ov) (s : SlotOk K S B H c ov F) : a ∈ F := by
  obtain ⟨v0, e0, q⟩ := r
  rw [e0] at eo
  cases eo
  have e' : (env[i]?).bind (fun c => c.tr.bind fun t => t.at π) = some (.node sh ts) := e
  rw [ec] at e'
  have fin : ∀ {u : T}, Own K S H v0 u F → u.at π = some (.node sh ts) → a ∈ F := fun o e' => by
    obtain ⟨w, F', a1, a2, a3⟩ := o.path e'
    cases a1.inj q
    subst ev
    cases a2 with
    | node h1 h2 h3 h4 h5 => exact a3 _ (.head _)
  cases c with
  | un => cases e'
  | own pin u =>
    obtain ⟨v', z1, z2, o, z3⟩ := s
    cases z1
    exact fin o e'
  | lk F0 u =>
    obtain ⟨_, v', z1, o, z3⟩ := s
    cases z1
    exact fin o e'
theorem RR.here {K : PySem.W.Frag} {S B H H' : Hp} {σ : L2.St} {v : V} {i : Nat} {π : List Nat} (r : RR K S B H H' σ v (.bo i π)) : RR K S B H' H' σ v (.bo i π) := r
/-- the items of a list, a tuple that is walked -/
def seqI (r : R) (t : T) (k : ItD → Prop) : Prop := match r, t with
  | .va _, .s (.node .lst ds) => k ⟨ds, none, true⟩
  | .va _, .s (.node .tup ds) => k ⟨ds, none, true⟩
  | .va _, .s (.node .ro ds) => k ⟨ds, none, true⟩
  | .va _, .node .lst ts => k ⟨ts.map T.er, none, true⟩
  | .bo i _, .node .lst ts => ts.all T.isS = true ∧ k ⟨ts.map T.er, some i, true⟩
  | _, _ => False
theorem seqI_mono (r : R) (t : T) {P Q : ItD → Prop} (f : ∀ x, P x → Q x) (h : seqI r t P) : seqI r t Q := by
  unfold seqI at h ⊢
  split at h
  · exact f _ h
  · exact f _ h
  · exact f _ h
  · exact f _ h
  · exact ⟨h.1, f _ h.2⟩
  · exact h.elim
def pSeqI (p : PX) : PI' := fun env k => p env fun r => ∃ t, r.tr env = some t ∧ seqI r t k
theorem jok_list {K : PySem.W.Frag} {S Z : Hp} {a : Addr} {vs : List V} {ds : List D} (h : SqL K Z a vs) (r : RepL K S vs ds) : JOk K S Z ds (Itl K a) := fun i S2 B2 H2 e1 e2 e3 e4 => by
  have hq : SqL K H2 a vs := ex_l e4 h
  have l := r.len
  refine ⟨fun hi => ?_, fun x H3 hi y => ?_, fun hi => ⟨vs, hq, by omega⟩⟩
  · exact ⟨vs, vs[i]'(by omega), hq, List.getElem?_eq_getElem (by omega)⟩
  · obtain ⟨rfl, y⟩ := y
    obtain ⟨d, a1, a2⟩ := r.getV (y vs hq)
    exact ⟨S2, B2, d, Gro.refl e2 e3, a1, a2.mono e1⟩
theorem jok_tup {K : PySem.W.Frag} {S Z : Hp} {a : Addr} {vs : List V} {ds : List D} (h : SqT K Z a vs) (r : RepL K S vs ds) : JOk K S Z ds (Itt K a) := fun i S2 B2 H2 e1 e2 e3 e4 => by
  have hq : SqT K H2 a vs := ex_t e4 h
  have l := r.len
  refine ⟨fun hi => ?_, fun x H3 hi y => ?_, fun hi => ⟨vs, hq, by omega⟩⟩
  · exact ⟨vs, vs[i]'(by omega), hq, List.getElem?_eq_getElem (by omega)⟩
  · obtain ⟨rfl, y⟩ := y
    obtain ⟨d, a1, a2⟩ := r.getV (y vs hq)
    exact ⟨S2, B2, d, Gro.refl e2 e3, a1, a2.mono e1⟩
section
variable {X : Cx} {tg e a b c : Expr} {pa pb pc : PX} {p pos : Pos}
theorem di_seq (h : PD X e pa) : PDI X tg e (pSeqI pa) := by
  refine ⟨PI.weak (pi_seq h.run) fun σ H R ⟨S, B, env, sr, q⟩ => ⟨S, B, env, sr, h.mono env (fun ra ⟨t, et, q⟩ S1 B1 v H1 g1 r1 => ?_) q⟩, fun env P Q f q => h.mono env (fun r ⟨t, et, q⟩ => ⟨t, et, seqI_mono _ _ f q⟩) q⟩
  have sr1 := sr.gro g1
  have sh1 := sr1.sh
  obtain ⟨F, o, hF⟩ := r1.get sr1 et
  unfold seqI at q
  split at q
  · cases o with
    | s o =>
      cases o with
      | @node p _ vs _ h1 h2 h3 =>
        refine ⟨p, rfl, .inl ⟨⟨vs, SqL.of (sh1 _ _ h1)⟩, ?_⟩⟩
        exact q S1 B1 H1 _ [] g1 ⟨fun Z e1 _ => jok_list (SqL.of (e1 _ _ h1)) h3, fun _ => rfl, (fun i e => nomatch e), fun _ => by rw [← h3.len]; exact h2⟩
  · cases o with
    | s o =>
      cases o with
      | @node p _ vs _ h1 h2 h3 =>
        refine ⟨p, rfl, .inr ⟨⟨vs, SqT.of (sh1 _ _ h1)⟩, ?_⟩⟩
        exact q S1 B1 H1 _ [] g1 ⟨fun Z e1 _ => jok_tup (SqT.of (e1 _ _ h1)) h3, fun _ => rfl, (fun i e => nomatch e), fun _ => by rw [← h3.len]; exact h2⟩
  · cases o with
    | s o =>
      cases o with
      | @node p _ vs _ h1 h2 h3 =>
        have h1 : SqL X.K S1 p vs := h1
        refine ⟨p, rfl, .inl ⟨⟨vs, ex_l sh1 h1⟩, ?_⟩⟩
        exact q S1 B1 H1 _ [] g1 ⟨fun Z e1 _ => jok_list (ex_l e1 h1) h3, fun _ => rfl, (fun i e => nomatch e), fun _ => by rw [← h3.len]; exact h2⟩
  · have hF := hF ⟨_, rfl⟩
    have g2 : Gro S B H _ _ H1 := g1.frz (G := F) hF
    cases o with
    | @node p ob _ vs ts F' h1 h2 h3 h4 h5 =>
      have h2 : ob = .lst vs := h2
      subst h2
      have rp := h4.frz (S' := joinF S1 H1 (p :: F')) (ex_joinF sh1) fun z hz => joinF_in (.tail _ hz)
      have hp : joinF S1 H1 (p :: F') p = some (.lst vs) := by rw [joinF_in (.head _)]; exact h1
      rw [← ers_map] at q
      exact ⟨p, rfl, .inl ⟨⟨vs, SqL.of h1⟩, q _ _ H1 _ [] g2 ⟨fun Z e1 _ => jok_list (SqL.of (e1 _ _ hp)) rp, fun _ => rfl, (fun i e => nomatch e), fun _ => by rw [← rp.len]; exact h3⟩⟩⟩
  · rename_i i π ts
    obtain ⟨q1, q2⟩ := q
    obtain ⟨ds, rfl⟩ := isS_map q1
    cases o with
    | @node p ob _ vs _ F' h1 h2 h3 h4 h5 =>
      have h2 : ob = .lst vs := h2
      subst h2
      obtain ⟨rp, _⟩ := OwnL.unsh h4
      rw [er_s_map] at q2
      refine ⟨p, rfl, .inl ⟨⟨vs, SqL.of h1⟩, q2 S1 B1 H1 _ [p] g1 ⟨fun Z e1 k => jok_list (SqL.of ?_) rp, (fun e => nomatch e), fun j e c ov F2 ec eo s z hz => ?_, fun _ => by rw [← rp.len]; exact h3⟩⟩⟩
      · rw [k p (.head _)]
        exact h1
      · cases e
        cases List.mem_singleton.mp hz
        exact bo_in r1.here et rfl ec eo s
  · exact q.elim

/-! ranges -/
def rngL (lo : Int) (n : Nat) : List D := (List.range n).map fun i => D.int (lo + ((i : Nat) : Int))
theorem rngL_get (lo : Int) (n i : Nat) (h : i < n) : (rngL lo n)[i]? = some (.int (lo + ((i : Nat) : Int))) := by
  unfold rngL
  rw [List.getElem?_map, List.getElem?_range h]
  rfl
theorem rngL_len (lo : Int) (n : Nat) : (rngL lo n).length = n := by unfold rngL; rw [List.length_map, List.length_range]
theorem jok_rng {K : PySem.W.Frag} {S Z : Hp} {lo : Int} {n : Nat} : JOk K S Z (rngL lo n) (Itr lo n) := fun i S2 B2 H2 e1 e2 e3 e4 => by
  refine ⟨fun hi => ?_, fun x H3 hi y => ?_, fun hi => ?_⟩
  · rw [rngL_len] at hi; exact hi
  · obtain ⟨rfl, rfl⟩ := y
    rw [rngL_len] at hi
    exact ⟨S2, B2, _, Gro.refl e2 e3, rngL_get lo n i hi, .int _⟩
  · rw [rngL_len] at hi; exact Nat.le_of_eq hi.symm
theorem lk_rng {K : PySem.W.Frag} {S B H : Hp} {σ : L2.St} {env : En} {lo : Int} {n : Nat} : Lk K S B H σ env ⟨rngL lo n, none, false⟩ (Itr lo n) [] := ⟨fun Z _ _ => jok_rng, fun _ => rfl, (fun i e => nomatch e), fun e => nomatch e⟩
def pRng1 (p : PX) : PI' := fun env k => p env fun r => ∃ n, r = .va (.s (.int n)) ∧ (-4611686018427387904 ≤ n ∧ n < 4611686018427387904) ∧ k ⟨rngL 0 n.toNat, none, false⟩
def pRng2 (p q : PX) : PI' := fun env k => p env fun r => q env fun r' => ∃ m n, r = .va (.s (.int m)) ∧ r' = .va (.s (.int n)) ∧ (-4611686018427387904 ≤ m ∧ m < 4611686018427387904 ∧ -4611686018427387904 ≤ n ∧ n < 4611686018427387904) ∧ k ⟨rngL m (n - m).toNat, none, false⟩
theorem RR.int {K : PySem.W.Frag} {S' B' H H' : Hp} {σ : L2.St} {v : V} {c : Int} (h : RR K S' B' H H' σ v (.va (.s (.int c)))) : v = .int c := by
  obtain ⟨F, o, _⟩ := h
  cases o with
  | s o => cases o; rfl
theorem di_rng1 (hg : Gl X "range") (hm : X.mg "range" = none) (h : PD X a pa) (hs : starEach [a] X.env = [(false, eval a X.env)] := by rfl) : PDI X tg (.Call (.Name "range" p) [a] [] pos) (pRng1 pa) := by
  refine ⟨PI.weak (pi_range1 hg hm (pa_cons h.run pa_nil hs) hs) fun σ H R ⟨S, B, env, sr, q⟩ => ⟨S, B, env, sr, h.mono env (fun ra ⟨n, e, ⟨b1, b2⟩, q⟩ S1 B1 v H1 g1 r1 => ?_) q⟩, fun env P Q f q => h.mono env (fun r ⟨n, e, b, q⟩ => ⟨n, e, b, f _ q⟩) q⟩
  subst e
  rw [r1.int]
  exact ⟨n, rfl, by omega, by omega, q S1 B1 H1 _ [] g1 lk_rng⟩
theorem di_rng2 (hg : Gl X "range") (hm : X.mg "range" = none) (h : PD X a pa) (h' : PD X b pb) (hs : starEach [a, b] X.env = [(false, eval a X.env), (false, eval b X.env)] := by rfl) (hs2 : starEach [b] X.env = [(false, eval b X.env)] := by rfl) : PDI X tg (.Call (.Name "range" p) [a, b] [] pos) (pRng2 pa pb) := by
  refine ⟨PI.weak (pi_range2 hg hm (pa_cons h.run (pa_cons h'.run pa_nil hs2) (by rw [hs, hs2])) hs hs2) fun σ H R ⟨S, B, env, sr, q⟩ => ⟨S, B, env, sr, h.mono env (fun ra q S1 B1 v H1 g1 r1 => ⟨S1, B1, env, sr.gro g1, h'.mono env (fun rb ⟨m, n, e, e', ⟨b1, b2, b3, b4⟩, q2⟩ S2 B2 v2 H2 g2 r2 => ?_) q⟩) q⟩, fun env P Q f q => h.mono env (fun r q => h'.mono env (fun r' ⟨m, n, e, e', b, q⟩ => ⟨m, n, e, e', b, f _ q⟩) q) q⟩
  subst e e'
  rw [r1.int, r2.int]
  exact ⟨m, n, rfl, ⟨by omega, by omega, by omega, by omega⟩, q2 S2 B2 H2 _ [] (g1.trans g2) lk_rng⟩
end
end PL

/-! The pure layer, part 9: targets, comprehensions. -/
namespace PL
open PySem L2

/-! ### targets -/
inductive Tgt where
  | nm (i : Nat) | tup (ts : List Tgt)
def setN (i : Nat) (d : D) (env : En) : Option En := match env[i]? with
  | some .un => some (env.set i (.own none (.s d)))
  | some (.own none _) => some (env.set i (.own none (.s d)))
  | _ => none
mutual
def setT : Tgt → D → En → Option En
  | .nm i, d, env => setN i d env
  | .tup ts, .node .tup ds, env => setTs ts ds env
  | .tup ts, .node .lst ds, env => setTs ts ds env
  | .tup _, _, _ => none
def setTs : List Tgt → List D → En → Option En
  | [], [], env => some env
  | t :: ts, d :: ds, env => match setT t d env with
    | some env1 => setTs ts ds env1
    | none => none
  | _, _, _ => none
end
mutual
def Tgt.ixs : Tgt → List Nat
  | .nm i => [i]
  | .tup ts => ixss ts
def ixss : List Tgt → List Nat
  | [] => []
  | t :: ts => t.ixs ++ ixss ts
end
section
variable {K : PySem.W.Frag} {S B H : Hp} {σ : L2.St} {env env' : En} {F G : List Addr} {i : Nat}
theorem Keeps.refl (p : Addr) : Keeps S B H S B H p := ⟨rfl, id, fun a b => ⟨a, b⟩⟩
/-- a slot takes a new tree, its old one is dropped -/
theorem SR.put (sr : SR K S B H σ env) {c c' : Cell} {ov' : Option V} {F' : List Addr} (e : env[i]? = some c) (h : SlotOk K S B H c' ov' F') (hf : ∀ ov F, SlotOk K S B H c ov F → ∀ G, SlotsOk K S B H env σ G → ∀ p ∈ F', p ∈ G → p ∈ F) : SR K S B H (σ.set i ov') (env.set i c') := by
  obtain ⟨G, sl⟩ := sr.sl
  obtain ⟨ov, F, s1, s2, s3, s4⟩ := sl.focus e
  obtain ⟨G', a, b⟩ := s4 (.refl _) (fun p _ _ => Keeps.refl p) h (hf ov F s2 G sl)
  exact ⟨sr.sb, sr.bh, G', a⟩
theorem setN_ok {d : D} {v : V} (sr : SR K S B H σ env) (r : Rep K S v d) (e : setN i d env = some env') : SR K S B H (σ.set i (some v)) env' := by
  have key : ∀ c, env[i]? = some c → SR K S B H (σ.set i (some v)) (env.set i (.own none (.s d))) := fun c ec =>
    sr.put ec (F' := []) ⟨v, rfl, (fun _ z => nomatch z), Own.s r, (fun _ z => nomatch z)⟩ fun _ _ _ _ _ _ z => nomatch z
  unfold setN at e
  split at e
  · cases e; exact key _ (by assumption)
  · cases e; exact key _ (by assumption)
  · cases e
end
def tDG (K : PySem.W.Frag) (tgt : Tgt) : TG := fun v σ H Q => ∃ S B env d env', SR K S B H σ env ∧ Rep K S v d ∧ setT tgt d env = some env' ∧ ∀ σ', SR K S B H σ' env' → (∀ j, j ∉ tgt.ixs → σ'[j]? = σ[j]?) → σ'.length = σ.length → Q σ' H
def tDGs (K : PySem.W.Frag) (ts : List Tgt) : TGs := fun vs σ H Q => ∃ S B env ds env', SR K S B H σ env ∧ RepL K S vs ds ∧ setTs ts ds env = some env' ∧ ∀ σ', SR K S B H σ' env' → (∀ j, j ∉ ixss ts → σ'[j]? = σ[j]?) → σ'.length = σ.length → Q σ' H
structure PDG (X : Cx) (tg : Expr) (t : Tgt) : Prop where
  run : PG X tg (tDG X.K t)
structure PDGs (X : Cx) (tg : List Expr) (t : List Tgt) : Prop where
  run : PGs X tg (tDGs X.K t)
  len : tg.length = t.length
theorem PG.weak {X : Cx} {e : Expr} {t t' : TG} (h : PG X e t) (w : ∀ v σ H Q, t' v σ H Q → t v σ H Q) : PG X e t' := ⟨fun pins s σ H v u Q I r q => h.run pins s σ H v u Q I r (w _ _ _ _ q)⟩
theorem PGs.weak {X : Cx} {e : List Expr} {t t' : TGs} (h : PGs X e t) (w : ∀ v σ H Q, t' v σ H Q → t v σ H Q) : PGs X e t' := ⟨fun pins s σ H v u Q I r q => h.run pins s σ H v u Q I r (w _ _ _ _ q)⟩
section
variable {X : Cx} {e : Expr} {es : List Expr} {pos : Pos} {t : Tgt} {ts : List Tgt}
theorem dg_name {i : Nat} {x : Str} (hN : X.N.Nodup) (hi : X.N[i]? = some x) (hx : Loc X.env.scope x) (hf : X.fn x = true ∨ X.env.scope.names.lookup x = some .local := by first | exact .inl rfl | exact .inr rfl | assumption) : PDG X (.Name x pos) (.nm i) :=
  ⟨PG.weak (pg_name hN hi hx hf) fun v σ H Q ⟨S, B, env, d, env', sr, r, e, q⟩ => q _ (setN_ok sr r e) (fun j hj => List.getElem?_set_ne fun z => hj (by rw [← z]; exact .head _)) (List.length_set ..)⟩
theorem dgs_nil : PDGs X [] [] := by
  refine ⟨PGs.weak pgs_nil fun v σ H Q ⟨S, B, env, ds, env', sr, r, e, q⟩ => ?_, rfl⟩
  cases ds with
  | nil =>
    cases r
    cases e
    exact ⟨rfl, q σ sr (fun _ _ => rfl) rfl⟩
  | cons d ds => cases e
theorem dgs_cons (h : PDG X e t) (hs : PDGs X es ts) (hh : (assignEach (e :: es) X.env).map (·.2) = assign e X.env :: (assignEach es X.env).map (·.2) := by rfl) : PDGs X (e :: es) (t :: ts) := by
  refine ⟨PGs.weak (pgs_cons h.run hs.run hh) fun vs σ H Q ⟨S, B, env, ds, env', sr, r, e, q⟩ => ?_, by rw [List.length_cons, List.length_cons, hs.len]⟩
  cases ds with
  | nil => cases e
  | cons d ds =>
    cases r with
    | cons r1 r2 =>
      have e' : (match setT t d env with
        | some env1 => setTs ts ds env1
        | none => none) = some env' := e
      cases z : setT t d env with
      | none => rw [z] at e'; cases e'
      | some env1 =>
        rw [z] at e'
        refine ⟨_, _, rfl, S, B, env, d, env1, sr, r1, z, fun σ1 sr1 k1 l1 => ?_⟩
        refine ⟨S, B, env1, ds, env', sr1, r2, e', fun σ2 sr2 k2 l2 => q σ2 sr2 (fun j hj => ?_) (l2.trans l1)⟩
        have hj' : j ∉ t.ixs ∧ j ∉ ixss ts := by
          have : j ∉ t.ixs ++ ixss ts := hj
          simpa using this
        rw [k2 j hj'.2, k1 j hj'.1]
theorem setTs_len : ∀ {ts : List Tgt} {ds : List D} {env env' : En}, setTs ts ds env = some env' → ds.length = ts.length
  | [], [], _, _, _ => rfl
  | [], _ :: _, _, _, e => nomatch e
  | _ :: _, [], _, _, e => nomatch e
  | t :: ts, d :: ds, env, env', e => by
    have e' : (match setT t d env with
      | some env1 => setTs ts ds env1
      | none => none) = some env' := e
    cases z : setT t d env with
    | none => rw [z] at e'; cases e'
    | some env1 =>
      rw [z] at e'
      rw [List.length_cons, List.length_cons, setTs_len e']
theorem PG.or {tg : Expr} {t t' : TG} (h : PG X tg t) (h' : PG X tg t') : PG X tg (fun v σ H Q => t v σ H Q ∨ t' v σ H Q) := ⟨fun pins s σ H v u Q I r q => q.elim (h.run pins s σ H v u Q I r) (h'.run pins s σ H v u Q I r)⟩
theorem dg_tup {k : Nat} {n : Nat} (hc : X.calm = true) (h : PDGs X es ts) (hn : (assignEach es X.env).length = ts.length := by rfl) (hst : (assignEach es X.env).findIdx? (·.1) = none := by rfl) : PDG X (.Tuple es k pos) (.tup ts) := by
  refine ⟨PG.weak (PG.or (pg_tup (n := ts.length) hc h.run hn hst) (pg_unl (n := ts.length) hc h.run hn hst)) fun v σ H Q ⟨S, B, env, d, env', sr, r, e, q⟩ => ?_⟩
  cases d with
  | node sh ds =>
    cases sh with
    | tup =>
      cases r with
      | @node p _ vs _ h1 h2 h3 =>
        have e' : setTs ts ds env = some env' := e
        exact .inl ⟨p, vs, rfl, SqT.of (sr.sh _ _ h1), h3.len.trans (setTs_len e'), S, B, env, ds, env', sr, h3, e', q⟩
    | lst =>
      cases r with
      | @node p _ vs _ h1 h2 h3 =>
        have e' : setTs ts ds env = some env' := e
        exact .inr ⟨p, vs, rfl, SqL.of (sr.sh _ _ h1), h3.len.trans (setTs_len e'), S, B, env, ds, env', sr, h3, e', q⟩
    | _ => cases e
  | _ => cases e
end

/-! ### comprehensions -/
def wipeE (env : En) : List Nat → En
  | [] => env
  | v :: vs => (wipeE env vs).set v .un
theorem SR.wipe {K : PySem.W.Frag} {S B H : Hp} {σ : L2.St} {env : En} (sr : SR K S B H σ env) : ∀ vs : List Nat, SR K S B H (L2.wipe σ vs) (wipeE env vs)
  | [] => sr
  | v :: vs => by
    have ih := SR.wipe sr vs
    show SR K S B H ((L2.wipe σ vs).set v none) ((wipeE env vs).set v .un)
    cases e : (wipeE env vs)[v]? with
    | some c => exact ih.put e (F' := []) rfl fun _ _ _ _ _ _ z => nomatch z
    | none =>
      obtain ⟨G, sl⟩ := ih.sl
      have l := sl.len
      have hv := List.getElem?_eq_none_iff.mp e
      rw [List.set_eq_of_length_le hv, List.set_eq_of_length_le (by omega)]
      exact ih
theorem wipe_get (σ : L2.St) : ∀ (vs : List Nat) (j : Nat), (L2.wipe σ vs)[j]? = if j ∈ vs ∧ j < σ.length then some none else σ[j]?
  | [], j => by simp [L2.wipe]
  | v :: vs, j => by
    show ((L2.wipe σ vs).set v none)[j]? = _
    by_cases e : v = j
    · subst e
      by_cases hl : v < σ.length
      · rw [List.getElem?_set_self (by rw [wipe_length]; exact hl)]
        simp [hl]
      · rw [List.getElem?_eq_none (by rw [List.length_set, wipe_length]; omega), List.getElem?_eq_none (by omega)]
        simp [hl]
    · rw [List.getElem?_set_ne e, wipe_get σ vs j]
      simp [Ne.symm e]
theorem wipe_eq {σ σ2 : L2.St} {vs : List Nat} (h : ∀ j, j ∉ vs → σ2[j]? = (L2.wipe σ vs)[j]?) (hl : σ2.length = (L2.wipe σ vs).length) : L2.wipe σ2 vs = L2.wipe σ vs := by
  rw [wipe_length] at hl
  refine List.ext_getElem? fun j => ?_
  rw [wipe_get, wipe_get]
  by_cases hj : j ∈ vs
  · by_cases hk : j < σ.length
    · rw [if_pos ⟨hj, by omega⟩, if_pos ⟨hj, hk⟩]
    · rw [if_neg (fun z => hk (by omega)), if_neg (fun z => hk z.2), List.getElem?_eq_none (by omega), List.getElem?_eq_none (by omega)]
  · rw [if_neg (fun z => hj z.1), if_neg (fun z => hj z.1), h j hj, wipe_get, if_neg (fun z => hj z.1)]
structure PDTs (X : Cx) (ifs : List Expr) (p : PB) : Prop where
  run : PTs X ifs (tDT X.K p)
  mono : MonoB p
theorem PTs.weak {X : Cx} {e : List Expr} {t t' : TT} (h : PTs X e t) (w : ∀ σ H Q, t' σ H Q → t σ H Q) : PTs X e t' := ⟨fun pins s σ H Q I q => h.run pins s σ H Q I (w _ _ _ q)⟩
def pYes : PB := fun _ k => k true
theorem dts_nil {X : Cx} : PDTs X [] pYes := ⟨PTs.weak pts_nil fun σ H Q ⟨S, B, env, sr, q⟩ => q S B H (Gro.refl sr.sb sr.bh), fun env P Q f h => f _ h⟩
theorem dts_one {X : Cx} {c : Expr} {p : PB} (h : PDT X c p) : PDTs X [c] p := ⟨pts_one h.run, h.mono⟩
/-- one turn: what stands at the target, the test, the element -/
def lcTurn (tgt : Tgt) (pt : PB) (pe : PX) (env : En) (d : D) (yes : T → Prop) (no : Prop) : Prop :=
  ∃ env2, setT tgt d env = some env2 ∧ pt env2 fun b => if b = true then pe env2 fun r => ∃ t, r = .va t ∧ yes t else no
def pLc (pi : PI') (tgt : Tgt) (pt : PB) (pe : PX) (vs : List Nat) : PX := fun env k => pi env fun it => ∃ Pv : Nat → List T → Prop, (it.src = true ∨ it.items.length ≤ 16777216) ∧ Pv 0 [] ∧
  (∀ i d acc, it.items[i]? = some d → acc.length ≤ i → Pv i acc → lcTurn tgt pt pe (wipeE env vs) d (fun t => Pv (i + 1) (acc ++ [t])) (Pv (i + 1) acc)) ∧ ∀ acc, acc.length ≤ it.items.length → Pv it.items.length acc → k (.va (.node .lst acc))
theorem pLc_mono {pi : PI'} {tgt : Tgt} {pt : PB} {pe : PX} {vs : List Nat} (h : MonoI pi) : Mono (pLc pi tgt pt pe vs) := fun env P Q f q => h env (fun it ⟨Pv, b, h0, hs, hd⟩ => ⟨Pv, b, h0, hs, fun acc l p => f _ (hd acc l p)⟩) q
/-- the state of a comprehension's block: the new list at L, of the trees acc -/
structure LcSt (K : PySem.W.Frag) (S1 B1 H1 H : Hp) (L : Addr) (acc : List T) (S2 B2 H2 : Hp) : Prop where
  g : Gro S1 B1 H1 S2 B2 H2
  o : ∃ vs F, H2 L = some (.lst vs) ∧ OwnL K S2 H2 vs acc F ∧ L ∉ F ∧ (∀ p ∈ F, H1 p = none ∧ B2 p = none) ∧ B2 L = none ∧ vs.length = acc.length
section
variable {X : Cx}
theorem lc_read {pi : PI'} {tgt : Tgt} {pt : PB} {pe : PX} {vs : List Nat} (mi : MonoI pi) (mt : MonoB pt) (me : Mono pe) (hv : ∀ j ∈ tgt.ixs, j ∈ vs) {σ : L2.St} {H : Hp} {Q : VK} (h : tD X.K (pLc pi tgt pt pe vs) σ H Q) :
    tLc (tDI X.K pi) (tDG X.K tgt) (tDT X.K pt) (tD X.K pe) vs σ H Q := by
  obtain ⟨S, B, env, sr, q⟩ := h
  refine ⟨S, B, env, sr, mi env (fun it ⟨Pv, bound, h0, hs, hd⟩ S1 B1 H1 J A g1 lk => ?_) q⟩
  have sr1 := sr.gro g1
  intro L hL
  have hz : it.items.length ≤ sizeLine := by
    rcases bound with z | z
    · exact lk.z z
    · rw [sizeLine_eq]; exact z
  have jok := lk.j H1 sr1.sh fun _ _ => rfl
  have bL : B1 L = none := ex_none g1.bh hL
  refine ⟨fun i m H2 => m = it.items.length - i ∧ i ≤ it.items.length ∧ ∃ S2 B2 acc, LcSt X.K S1 B1 H1 H L acc S2 B2 H2 ∧ acc.length ≤ i ∧ Pv i acc, ⟨_, rfl, Nat.zero_le _, S1, B1, [], ⟨Gro.new g1.sb g1.bh hL, [], [], upd_same, .nil, (fun z => nomatch z), (fun _ z => nomatch z), bL, rfl⟩, Nat.le_refl _, h0⟩, ?_⟩
  rintro i m H2 ⟨rfl, hi, S2, B2, acc, st, hacc, pv⟩
  obtain ⟨g2, ws, F, oL, oF, nL, fr, bL2, lw⟩ := st
  obtain ⟨j1, j2, j3⟩ := jok i S2 B2 H2 g2.e.s g2.sb g2.bh g2.h
  by_cases hlt : i < it.items.length
  · refine .inr ⟨j1 hlt, fun H3 => i + 1 ≤ it.items.length ∧ ∃ S2 B2 acc, LcSt X.K S1 B1 H1 H L acc S2 B2 H3 ∧ acc.length ≤ i + 1 ∧ Pv (i + 1) acc, fun H3 ⟨a, b⟩ => ⟨_, by omega, rfl, a, b⟩, fun x H3 y => ?_⟩
    obtain ⟨S3, B3, d, g3, ed, rd⟩ := j2 x H3 hlt y
    obtain ⟨env2, se, q⟩ := hs i d acc ed hacc pv
    have g23 := g2.trans g3
    have sr3 := (sr1.gro g23).wipe vs
    refine ⟨S3, B3, wipeE env vs, d, env2, sr3, rd, se, fun σ2 sr4 k2 l2 => ⟨wipe_eq (fun j hj => k2 j fun z => hj (hv j z)) l2, S3, B3, env2, sr4, mt env2 (fun b q S4 B4 H4 g4 => ?_) q⟩⟩
    have gA := g3.trans g4
    have stay : ∀ {p : Addr} {o : HO}, H2 p = some o → H4 p = some o := fun {p o} e => gA.h p o e
    have fr4 : ∀ p ∈ F, H1 p = none ∧ B4 p = none := fun p hp => by
      obtain ⟨o, e, _⟩ := oF.dom p hp
      exact ⟨(fr p hp).1, (gA.keeps e).2.1 (fr p hp).2⟩
    have oF4 : OwnL X.K S4 H4 ws acc F := oF.mono gA.e.s fun p hp => by
      obtain ⟨o, e, _⟩ := oF.dom p hp
      exact (gA.keeps e).1
    have bL4 : B4 L = none := (gA.keeps oL).2.1 bL2
    cases b with
    | false => exact ⟨hlt, S4, B4, acc, ⟨g2.trans gA, ws, F, stay oL, oF4, nL, fr4, bL4, lw⟩, by omega, q⟩
    | true =>
      show tD X.K pe σ2 H4 _
      refine ⟨S4, B4, env2, sr4.gro g4, me env2 (fun r ⟨t, er, q⟩ S5 B5 v H5 g5 r5 => ?_) q⟩
      subst er
      obtain ⟨F5, o5, f5⟩ := r5
      have e5 : H5 L = some (.lst ws) := g5.h _ _ (stay oL)
      have oF5 : OwnL X.K S5 H5 ws acc F := oF4.mono g5.e.s fun p hp => by
        obtain ⟨o, e, _⟩ := oF4.dom p hp
        exact (g5.keeps e).1
      have fr5 : ∀ p ∈ F, H1 p = none ∧ B5 p = none := fun p hp => by
        obtain ⟨o, e, _⟩ := oF4.dom p hp
        exact ⟨(fr4 p hp).1, (g5.keeps e).2.1 (fr4 p hp).2⟩
      have bL5 : B5 L = none := (g5.keeps (stay oL)).2.1 bL4
      have gB := (g2.trans gA).trans g5
      have dj : ∀ p ∈ F, p ∉ F5 := fun p hp hq => by
        obtain ⟨o, e, _⟩ := oF4.dom p hp
        rw [(f5 p hq).1] at e
        cases e
      have nL5 : L ∉ F5 := fun z => by
        have := (f5 L z).1
        rw [stay oL] at this
        cases this
      have one : OwnL X.K S5 H5 [v] [t] F5 := by
        have := OwnL.cons o5 OwnL.nil (fun p _ z => nomatch z)
        rwa [List.append_nil] at this
      have oA := oF5.append one dj
      have nLA : L ∉ F ++ F5 := fun z => (List.mem_append.mp z).elim nL nL5
      have sz : ws.length < sizeLine := by omega
      refine ⟨ws, e5, sz, hlt, S5, B5, acc ++ [t], ⟨⟨fun p o e => ?_, gB.e, gB.n, gB.sb, fun p o e => ?_⟩, ws ++ [v], F ++ F5, upd_same, oA.mono (.refl _) fun p hp => upd_ne fun z => nLA (z ▸ hp), nLA, fun p hp => ?_, bL5, by rw [List.length_append, List.length_append, lw]; rfl⟩, by rw [List.length_append]; show acc.length + 1 ≤ _; omega, q⟩
      · rw [upd_ne (ne_of_none e hL)]
        exact gB.h p o e
      · rw [upd_ne (fun z => by rw [z, bL5] at e; cases e)]
        exact gB.bh p o e
      · rcases List.mem_append.mp hp with hp | hp
        · exact fr5 p hp
        · exact ⟨ex_none (g2.trans gA).h (f5 p hp).1, (f5 p hp).2⟩
  · have e : i = it.items.length := by omega
    subst e
    refine .inl ⟨j3 rfl, ?_⟩
    have nF : L ∉ F := nL
    refine hd acc hacc pv S2 B2 _ H2 (g1.trans g2) ⟨L :: F, .node oL rfl (by omega) oF nL, fun p hp => ?_⟩
    cases hp with
    | head => exact ⟨ex_none g1.h hL, bL2⟩
    | tail _ hp => exact ⟨ex_none g1.h (fr p hp).1, (fr p hp).2⟩
variable {elt tg iter : Expr} {ifs : List Expr} {scope : Scope} {own : List (Str × Nat)} {pos : Pos} {pi : PI'} {tgt : Tgt} {pt : PB} {pe : PX}
theorem d_lc (hc : X.calm = true) (hN : X.N.Nodup) (hi : PDI X tg iter pi) (ok : BlkOk X.N X.env.scope scope own) (hv : ∀ j ∈ tgt.ixs, j ∈ own.map (·.2))
    (hg : ∀ (s : Shared) (H : Hp) (C : Addr) (cl : List (Str × Addr)) (fp : List Addr), PDG (X.blk s H scope (compEnvC scope cl C X.env) fp) tg tgt) (ht : ∀ (s : Shared) (H : Hp) (C : Addr) (cl : List (Str × Addr)) (fp : List Addr), PDTs (X.blk s H scope (compEnvC scope cl C X.env) fp) ifs pt)
    (he : ∀ (s : Shared) (H : Hp) (C : Addr) (cl : List (Str × Addr)) (fp : List Addr), PD (X.blk s H scope (compEnvC scope cl C X.env) fp) elt pe) (hs : ∀ x, foldedSetIterable iter X.env x = pure x := by intro _; rfl) :
    PD X (.ListComp elt [⟨tg, iter, ifs, 0⟩] scope pos) (pLc pi tgt pt pe (own.map (·.2))) :=
  ⟨PE.weak (pe_lc hc hN hi.run ok (fun s H C cl fp => (hg s H C cl fp).run) (fun s H C cl fp => (ht s H C cl fp).run) (fun s H C cl fp => (he s H C cl fp).run) hs) fun σ H Q q =>
    lc_read hi.mono (ht X.s_0 X.H_0 0 [] []).mono (he X.s_0 X.H_0 0 [] []).mono hv q, pLc_mono hi.mono⟩
end
end PL

/-! The pure layer, part 10: statements. -/
namespace PL
open PySem L2

/-! ### expressions that may change what the slots own; the result is its own -/
abbrev PXM := En → (T → En → Prop) → Prop
abbrev MonoM (p : PXM) : Prop := ∀ (env : En) {P Q : T → En → Prop}, (∀ t e, P t e → Q t e) → p env P → p env Q
def tDM (K : PySem.W.Frag) (p : PXM) : TE := fun σ H Q => ∃ S B env, SR K S B H σ env ∧ p env fun t env' => ∀ S' B' v H', Evo S B S' B' → SR K S' B' H' (some v :: σ) (.own none t :: env') → Q v H'
structure PDM (X : Cx) (e : Expr) (p : PXM) : Prop where
  run : PE X e (tDM X.K p)
  mono : MonoM p
section
variable {K : PySem.W.Frag} {S B H S' B' H' S1 B1 H1 : Hp} {σ : L2.St} {env env' : En} {v : V} {t : T} {F : List Addr} {c : Cell}
/-- a tree of its own beside the slots -/
theorem SR.cons {G : List Addr} (sb : Ex S B) (bh : Ex B H) (sl : SlotsOk K S B H env σ G) (o : Own K S H v t F) (nb : ∀ p ∈ F, B p = none) (dj : ∀ p ∈ F, p ∉ G) : SR K S B H (some v :: σ) (.own none t :: env) :=
  ⟨sb, bh, _, .cons ⟨v, rfl, (fun _ z => nomatch z), o, nb⟩ sl dj⟩
theorem SR.uncons {ov : Option V} (h : SR K S B H (ov :: σ) (c :: env)) : SR K S B H σ env := by
  obtain ⟨G, sl⟩ := h.sl
  cases sl with
  | cons h1 h2 h3 => exact ⟨h.sb, h.bh, _, h2⟩
theorem SR.res (sr : SR K S B H σ env) (g : Gro S B H S' B' H') (r : RR K S' B' H H' σ v (.va t)) : SR K S' B' H' (some v :: σ) (.own none t :: env) := by
  obtain ⟨F, o, fr⟩ := r
  obtain ⟨G, sl⟩ := (sr.gro g).sl
  obtain ⟨G0, sl0⟩ := sr.sl
  refine ⟨g.sb, g.bh, F ++ G0, .cons ⟨v, rfl, (fun _ z => nomatch z), o, fun p hp => (fr p hp).2⟩ ?_ fun p hp hq => ?_⟩
  · exact sl0.mono g.e.s fun p hp => by
      obtain ⟨ob, e, _⟩ := sl0.ne p hp
      exact g.keeps e
  · obtain ⟨ob, e, _⟩ := sl0.ne p hq
    rw [(fr p hp).1] at e
    cases e
end
/-- a result that is its own, as it is -/
def pLift (p : PX) : PXM := fun env k => p env fun r => ∃ t, r = .va t ∧ k t env
theorem dm_of {X : Cx} {e : Expr} {p : PX} (h : PD X e p) : PDM X e (pLift p) := by
  refine ⟨PE.weak h.run fun σ H Q ⟨S, B, env, sr, q⟩ => ⟨S, B, env, sr, h.mono env (fun r ⟨t, e, q⟩ S1 B1 v H1 g r1 => ?_) q⟩, fun env P Q f q => h.mono env (fun r ⟨t, e, q⟩ => ⟨t, e, f _ _ q⟩) q⟩
  subst e
  exact q S1 B1 v H1 g.e (sr.res g r1)
/-- a name's tree, taken out of its slot -/
def pMove (i : Nat) : PXM := fun env k => match env[i]? with
  | some (.own none t) => k t (env.set i .un)
  | _ => False
theorem dm_move {X : Cx} {e : Expr} {i : Nat} (h : PE X e (tVar i)) : PDM X e (pMove i) := by
  refine ⟨PE.weak h fun σ H Q ⟨S, B, env, sr, q⟩ => ?_, fun env P Q f q => ?_⟩
  · unfold pMove at q
    split at q
    · rename_i t ec
      obtain ⟨G, sl⟩ := sr.sl
      obtain ⟨ov, F, s1, s2, s3, s4⟩ := sl.focus ec
      obtain ⟨v, e1, _, o, nb⟩ := s2
      subst e1
      obtain ⟨G', a, b⟩ := s4 (c' := .un) (ov' := some v) (F' := []) (.refl _) (fun p _ _ => Keeps.refl p) rfl fun _ z => nomatch z
      have hv : σ.set i (some v) = σ := List.ext_getElem? fun j => by
        by_cases hj : i = j
        · subst hj
          rw [List.getElem?_set_self (List.getElem?_eq_some_iff.mp s1).1, s1]
        · rw [List.getElem?_set_ne hj]
      rw [hv] at a
      refine ⟨v, s1, q S B v H (.refl S B) (SR.cons sr.sb sr.bh a o nb fun p hp hq => ?_)⟩
      rcases b p hq with z | ⟨_, z⟩
      · cases z
      · exact z hp
    · exact q.elim
  · unfold pMove at q ⊢
    split at q
    · exact f _ _ q
    · exact q.elim

/-! ### statements -/
structure PEnds where
  nx : En → Prop
  rt : T → En → Prop
  bk : En → Prop := fun _ => False
  ct : En → Prop := fun _ => False
abbrev PSt := PEnds → En → Prop
structure PLe (a b : PEnds) : Prop where
  nx : ∀ e, a.nx e → b.nx e
  rt : ∀ t e, a.rt t e → b.rt t e
  bk : ∀ e, a.bk e → b.bk e
  ct : ∀ e, a.ct e → b.ct e
theorem PLe.refl (a : PEnds) : PLe a a := ⟨fun _ h => h, fun _ _ h => h, fun _ h => h, fun _ h => h⟩
abbrev MonoS (p : PSt) : Prop := ∀ {a b : PEnds} (env : En), PLe a b → p a env → p b env
structure Bridge (K : PySem.W.Frag) (S B : Hp) (pd : PEnds) (D : Ends) : Prop where
  nx : ∀ S' B' σ' H' env', Evo S B S' B' → SR K S' B' H' σ' env' → pd.nx env' → D.nx σ' H'
  bk : ∀ S' B' σ' H' env', Evo S B S' B' → SR K S' B' H' σ' env' → pd.bk env' → D.bk σ' H'
  ct : ∀ S' B' σ' H' env', Evo S B S' B' → SR K S' B' H' σ' env' → pd.ct env' → D.ct σ' H'
  rt : ∀ S' B' σ' H' env' v t, Evo S B S' B' → SR K S' B' H' (some v :: σ') (.own none t :: env') → pd.rt t env' → D.rt v H'
theorem Bridge.evo {K : PySem.W.Frag} {S B S1 B1 : Hp} {pd : PEnds} {D : Ends} (b : Bridge K S B pd D) (e : Evo S B S1 B1) : Bridge K S1 B1 pd D :=
  ⟨fun S' B' σ' H' env' e1 => b.nx S' B' σ' H' env' (e.trans e1), fun S' B' σ' H' env' e1 => b.bk S' B' σ' H' env' (e.trans e1), fun S' B' σ' H' env' e1 => b.ct S' B' σ' H' env' (e.trans e1), fun S' B' σ' H' env' v t e1 => b.rt S' B' σ' H' env' v t (e.trans e1)⟩
def tSd (K : PySem.W.Frag) (p : PSt) : TS := fun D σ H => ∃ S B env pd, SR K S B H σ env ∧ p pd env ∧ Bridge K S B pd D
structure PDS (X : Cx) (st : Stmt) (p : PSt) : Prop where
  run : PS X st (tSd X.K p)
  mono : MonoS p
structure PDSs (X : Cx) (st : List Stmt) (p : PSt) : Prop where
  run : PSs X st (tSd X.K p)
  mono : MonoS p
theorem PS.weak {X : Cx} {e : Stmt} {t t' : TS} (h : PS X e t) (w : ∀ D σ H, t' D σ H → t D σ H) : PS X e t' := ⟨fun pins s σ H D I q => h.run pins s σ H D I (w _ _ _ q)⟩
theorem PSs.weak {X : Cx} {e : List Stmt} {t t' : TS} (h : PSs X e t) (w : ∀ D σ H, t' D σ H → t D σ H) : PSs X e t' := ⟨fun pins s σ H D I q => h.run pins s σ H D I (w _ _ _ q)⟩
def pNext : PSt := fun pd env => pd.nx env
def pSeq (p q : PSt) : PSt := fun pd env => p { pd with nx := q pd } env
def pBreak : PSt := fun pd env => pd.bk env
def pCont : PSt := fun pd env => pd.ct env
def pNever : PSt := fun _ _ => False
def pDrop (p : PXM) : PSt := fun pd env => p env fun _ env' => pd.nx env'
def pRet (p : PXM) : PSt := fun pd env => p env fun t env' => pd.rt t env'
def pRetN : PSt := fun pd env => pd.rt (.s .non) env
def pIf (c : PB) (p q : PSt) : PSt := fun pd env => c env fun b => if b = true then p pd env else q pd env
def setO (i : Nat) (t : T) (env : En) : Option En := match env[i]? with
  | some .un => some (env.set i (.own none t))
  | some (.own none _) => some (env.set i (.own none t))
  | _ => none
def pAsg (i : Nat) (p : PXM) : PSt := fun pd env => p env fun t env' => ∃ e2, setO i t env' = some e2 ∧ pd.nx e2
def pAsgT (tgt : Tgt) (p : PXM) : PSt := fun pd env => p env fun t env' => ∃ d e2, t = .s d ∧ setT tgt d env' = some e2 ∧ pd.nx e2
/-- a slot's tree frozen -/
def pFrz (i : Nat) (p : PSt) : PSt := fun pd env => match env[i]? with
  | some (.own none t) => p pd (env.set i (.own none (.s t.er)))
  | _ => False
section
variable {X : Cx} {st : Stmt} {rest : List Stmt} {e c : Expr} {pos : Pos} {p q : PSt} {pm : PXM} {pb : PB}
theorem dss_nil : PDSs X [] pNext := ⟨PSs.weak pss_nil fun D σ H ⟨S, B, env, pd, sr, h, br⟩ => br.nx S B σ H env (.refl S B) sr h, fun env le h => le.nx _ h⟩
theorem seq_read {K : PySem.W.Frag} {D : Ends} {σ : L2.St} {H : Hp} (h : tSd K (pSeq p q) D σ H) : tSeq (tSd K p) (tSd K q) D σ H := by
  obtain ⟨S, B, env, pd, sr, h, br⟩ := h
  exact ⟨S, B, env, { pd with nx := q pd }, sr, h, ⟨fun S' B' σ' H' env' e1 sr1 q1 => ⟨S', B', env', pd, sr1, q1, br.evo e1⟩, br.bk, br.ct, br.rt⟩⟩
theorem seq_mono (mp : MonoS p) (mq : MonoS q) : MonoS (pSeq p q) := fun {a b} env le h =>
  mp (a := { a with nx := q a }) (b := { b with nx := q b }) env ⟨fun e h => mq e le h, le.rt, le.bk, le.ct⟩ (show p { a with nx := q a } env from h)
theorem dss_cons (h1 : PDS X st p) (h2 : PDSs X rest q) : PDSs X (st :: rest) (pSeq p q) := ⟨PSs.weak (pss_cons h1.run h2.run) fun _ _ _ h => seq_read h, seq_mono h1.mono h2.mono⟩
theorem dss_one (h1 : PDS X st p) : PDSs X [st] p := ⟨pss_one h1.run, h1.mono⟩
theorem ds_pass : PDS X (.Pass pos) pNext := ⟨PS.weak ps_pass fun D σ H ⟨S, B, env, pd, sr, h, br⟩ => br.nx S B σ H env (.refl S B) sr h, fun env le h => le.nx _ h⟩
theorem ds_break : PDS X (.Break pos) pBreak := ⟨PS.weak ps_break fun D σ H ⟨S, B, env, pd, sr, h, br⟩ => br.bk S B σ H env (.refl S B) sr h, fun env le h => le.bk _ h⟩
theorem ds_cont : PDS X (.Continue pos) pCont := ⟨PS.weak ps_continue fun D σ H ⟨S, B, env, pd, sr, h, br⟩ => br.ct S B σ H env (.refl S B) sr h, fun env le h => le.ct _ h⟩
theorem ds_never : PDS X st pNever := ⟨PS.weak ps_never fun D σ H ⟨S, B, env, pd, sr, h, br⟩ => h.elim, fun env le h => h.elim⟩
theorem ds_expr (h : PDM X e pm) (hs : swapsWith e none pos.line X.env = pure false := by rfl) : PDS X (.Expr e pos) (pDrop pm) :=
  ⟨PS.weak (ps_expr h.run hs) fun D σ H ⟨S, B, env, pd, sr, q, br⟩ => ⟨S, B, env, sr, h.mono env (fun t env' q S' B' v H' ev sr' => br.nx S' B' σ H' env' ev sr'.uncons q) q⟩, fun env le q => h.mono env (fun t e q => le.nx _ q) q⟩
theorem ds_ret (h : PDM X e pm) : PDS X (.Return (some e) pos) (pRet pm) :=
  ⟨PS.weak (ps_ret h.run) fun D σ H ⟨S, B, env, pd, sr, q, br⟩ => ⟨S, B, env, sr, h.mono env (fun t env' q S' B' v H' ev sr' => br.rt S' B' σ H' env' v t ev sr' q) q⟩, fun env le q => h.mono env (fun t e q => le.rt _ _ q) q⟩
theorem ds_retN : PDS X (.Return none pos) pRetN :=
  ⟨PS.weak ps_retN fun D σ H ⟨S, B, env, pd, sr, q, br⟩ => br.rt S B σ H env .non (.s .non) (.refl S B) (let ⟨G, sl⟩ := sr.sl; SR.cons sr.sb sr.bh sl (.s .non) (fun _ z => nomatch z) fun _ z => nomatch z) q, fun env le q => le.rt _ _ q⟩
theorem ds_if {a b : List Stmt} (hc : PDT X c pb) (ha : PDSs X a p) (hb : PDSs X b q) : PDS X (.If c a b pos) (pIf pb p q) := by
  refine ⟨PS.weak (ps_if hc.run ha.run hb.run) fun D σ H ⟨S, B, env, pd, sr, h, br⟩ => ⟨S, B, env, sr, hc.mono env (fun b h S1 B1 H1 g => ?_) h⟩, fun env le h => hc.mono env (fun b h => ?_) h⟩
  · cases b with
    | true => exact ⟨S1, B1, env, pd, sr.gro g, h, br.evo g.e⟩
    | false => exact ⟨S1, B1, env, pd, sr.gro g, h, br.evo g.e⟩
  · cases b with
    | true => exact ha.mono env le h
    | false => exact hb.mono env le h
/-- the tree beside the slots goes into one -/
theorem SR.into {K : PySem.W.Frag} {S B H : Hp} {σ : L2.St} {env e2 : En} {v : V} {t : T} {i : Nat} (h : SR K S B H (some v :: σ) (.own none t :: env)) (e : setO i t env = some e2) : SR K S B H (σ.set i (some v)) e2 := by
  obtain ⟨G0, sl⟩ := h.sl
  cases sl with
  | @cons _ _ _ _ F G s1 s2 s3 =>
    have key : ∀ c, env[i]? = some c → SR K S B H (σ.set i (some v)) (env.set i (.own none t)) := fun c ec => by
      obtain ⟨ov, F1, a1, a2, a3, a4⟩ := s2.focus ec
      obtain ⟨G', b1, b2⟩ := a4 (c' := .own none t) (ov' := some v) (.refl _) (fun p _ _ => Keeps.refl p) s1 fun p hp hq => absurd hq (s3 p hp)
      exact ⟨h.sb, h.bh, G', b1⟩
    unfold setO at e
    split at e
    · cases e; exact key _ (by assumption)
    · cases e; exact key _ (by assumption)
    · cases e
theorem ds_asg {i : Nat} {x : Str} {py : Pos} (hN : X.N.Nodup) (hi : X.N[i]? = some x) (hx : Loc X.env.scope x) (h : PDM X e pm) (hs : swapsWithSole [.Name x py] e pos.line X.env = pure false := by rfl) (hw : swappedStores [.Name x py] e X.env = pure none := by rfl)
    (hf : X.fn x = true ∨ X.env.scope.names.lookup x = some .local := by first | exact .inl rfl | exact .inr rfl | assumption) : PDS X (.Assign [.Name x py] e pos) (pAsg i pm) :=
  ⟨PS.weak (ps_asg h.run (pg_name hN hi hx hf) hs hw) fun D σ H ⟨S, B, env, pd, sr, q, br⟩ => ⟨S, B, env, sr, h.mono env (fun t env' ⟨e2, se, q⟩ S' B' v H' ev sr' => br.nx S' B' _ H' e2 ev (sr'.into se) q) q⟩,
    fun env le q => h.mono env (fun t e ⟨e2, se, q⟩ => ⟨e2, se, le.nx _ q⟩) q⟩
theorem SR.scal {K : PySem.W.Frag} {S B H : Hp} {σ : L2.St} {env : En} {v : V} {d : D} (h : SR K S B H (some v :: σ) (.own none (.s d) :: env)) : Rep K S v d := by
  obtain ⟨G0, sl⟩ := h.sl
  cases sl with
  | cons s1 s2 s3 =>
    obtain ⟨v', e1, _, o, _⟩ := s1
    cases e1
    cases o with
    | s o => exact o
theorem ds_asgT {tg : Expr} {tgt : Tgt} (hg : PDG X tg tgt) (h : PDM X e pm) (hs : swapsWithSole [tg] e pos.line X.env = pure false := by rfl) (hw : swappedStores [tg] e X.env = pure none := by rfl) (h1 : (assignEach [tg] X.env).map (·.2) = [assign tg X.env] := by rfl) : PDS X (.Assign [tg] e pos) (pAsgT tgt pm) := by
  refine ⟨PS.weak (ps_asg h.run hg.run hs hw h1) fun D σ H ⟨S, B, env, pd, sr, q, br⟩ => ⟨S, B, env, sr, h.mono env (fun t env' ⟨d, e2, et, se, q⟩ S' B' v H' ev sr' => ?_) q⟩, fun env le q => h.mono env (fun t e ⟨d, e2, et, se, q⟩ => ⟨d, e2, et, se, le.nx _ q⟩) q⟩
  subst et
  exact ⟨S', B', env', d, e2, sr'.uncons, sr'.scal, se, fun σ' sr2 _ _ => br.nx S' B' σ' H' e2 ev sr2 q⟩
/-- freezing a slot changes nothing -/
theorem SR.frz {K : PySem.W.Frag} {S B H : Hp} {σ : L2.St} {env : En} {t : T} {i : Nat} (sr : SR K S B H σ env) (e : env[i]? = some (.own none t)) : ∃ S' B', Evo S B S' B' ∧ SR K S' B' H σ (env.set i (.own none (.s t.er))) := by
  obtain ⟨G, sl⟩ := sr.sl
  obtain ⟨ov, F, s1, s2, s3, s4⟩ := sl.focus e
  obtain ⟨v, e1, _, o, nb⟩ := s2
  subst e1
  have sh := sr.sh
  have hs : Ex S (joinF S H F) := ex_joinF sh
  refine ⟨joinF S H F, joinF B H F, ⟨hs, ex_joinF sr.bh, fun p a b => ?_⟩, ?_⟩
  · by_cases hp : p ∈ F
    · exact nb p hp
    · rw [joinF_out hp] at a
      exact absurd b a
  · have rp := o.frz hs fun p hp => joinF_in hp
    obtain ⟨G', a, b⟩ := s4 (S' := joinF S H F) (B' := joinF B H F) (H' := H) (c' := .own none (.s t.er)) (ov' := some v) (F' := []) hs (fun p hp hn => ⟨rfl, fun z => by rw [joinF_out hn]; exact z, fun z1 z2 => by rw [joinF_out hn, joinF_out hn]; exact ⟨z1, z2⟩⟩) ⟨v, rfl, (fun _ z => nomatch z), .s rp, fun _ z => nomatch z⟩ fun _ z => nomatch z
    have hv : σ.set i (some v) = σ := List.ext_getElem? fun j => by
      by_cases hj : i = j
      · subst hj
        rw [List.getElem?_set_self (List.getElem?_eq_some_iff.mp s1).1, s1]
      · rw [List.getElem?_set_ne hj]
    rw [hv] at a
    exact ⟨joinF_two sr.sb, joinF_ex sr.bh, G', a⟩
theorem frz_read {K : PySem.W.Frag} {i : Nat} {D : Ends} {σ : L2.St} {H : Hp} (h : tSd K (pFrz i p) D σ H) : tSd K p D σ H := by
  obtain ⟨S, B, env, pd, sr, h, br⟩ := h
  unfold pFrz at h
  split at h
  · rename_i t ec
    obtain ⟨S', B', ev, sr'⟩ := sr.frz ec
    exact ⟨S', B', _, pd, sr', h, br.evo ev⟩
  · exact h.elim
theorem frz_mono {i : Nat} (mp : MonoS p) : MonoS (pFrz i p) := fun env le h => by
  unfold pFrz at h ⊢
  split at h
  · exact mp _ le h
  · exact h.elim
theorem dss_frz (i : Nat) (h : PDSs X rest p) : PDSs X rest (pFrz i p) := ⟨PSs.weak h.run fun _ _ _ h => frz_read h, frz_mono h.mono⟩
theorem ds_frz (i : Nat) (h : PDS X st p) : PDS X st (pFrz i p) := ⟨PS.weak h.run fun _ _ _ h => frz_read h, frz_mono h.mono⟩

/-! name = [..] -/
theorem ds_setLc {i : Nat} {y : Str} {py : Pos} {elt tg iter : Expr} {ifs : List Expr} {scope : Scope} {own : List (Str × Nat)} {cpos spos : Pos} {pi : PI'} {tgt : Tgt} {pt : PB} {pe : PX} (hc : X.calm = true) (hN : X.N.Nodup) (hy : X.N[i]? = some y) (hyl : X.env.scope.names.lookup y = some .local)
    (hsw : swapsWith (.ListComp elt [⟨tg, iter, ifs, 0⟩] scope cpos) (some (.Name y py)) spos.line X.env = pure true) (hi : PDI X tg iter pi) (ok : BlkOk X.N X.env.scope scope own) (hv : ∀ j ∈ tgt.ixs, j ∈ own.map (·.2))
    (hg : ∀ (s : Shared) (H : Hp) (C : Addr) (cl : List (Str × Addr)) (fp : List Addr), PDG (X.blk s H scope (compEnvC scope cl C X.env) fp) tg tgt) (ht : ∀ (s : Shared) (H : Hp) (C : Addr) (cl : List (Str × Addr)) (fp : List Addr), PDTs (X.blk s H scope (compEnvC scope cl C X.env) fp) ifs pt)
    (he : ∀ (s : Shared) (H : Hp) (C : Addr) (cl : List (Str × Addr)) (fp : List Addr), PD (X.blk s H scope (compEnvC scope cl C X.env) fp) elt pe) (hs : ∀ x, foldedSetIterable iter X.env x = pure x := by intro _; rfl) :
    PDS X (.Assign [.Name y py] (.ListComp elt [⟨tg, iter, ifs, 0⟩] scope cpos) spos) (pAsg i (pLift (pLc pi tgt pt pe (own.map (·.2))))) := by
  refine ⟨PS.weak (ps_setLc (g := tDG X.K tgt) (tt := tDT X.K pt) (te := tD X.K pe) hc hN hy hyl hsw hi.run ok (fun s H C cl fp => (hg s H C cl fp).run) (fun s H C cl fp => (ht s H C cl fp).run) (fun s H C cl fp => (he s H C cl fp).run) hs) fun D σ H ⟨S, B, env, pd, sr, q, br⟩ => ?_,
    fun {a b} env le q => ?_⟩
  rotate_left
  · have q' : pLc pi tgt pt pe (own.map (·.2)) env (fun r => ∃ t, r = .va t ∧ ∃ e2, setO i t env = some e2 ∧ a.nx e2) := q
    have r' : pLc pi tgt pt pe (own.map (·.2)) env (fun r => ∃ t, r = .va t ∧ ∃ e2, setO i t env = some e2 ∧ b.nx e2) := pLc_mono hi.mono env (fun r ⟨t, er, e2, se, q⟩ => ⟨t, er, e2, se, le.nx _ q⟩) q'
    exact r'
  refine lc_read hi.mono (ht X.s_0 X.H_0 0 [] []).mono (he X.s_0 X.H_0 0 [] []).mono hv ⟨S, B, env, sr, pLc_mono hi.mono env (fun r ⟨t, er, e2, se, q⟩ S1 B1 v H1 g r1 => ?_) (show pLc pi tgt pt pe (own.map (·.2)) env (fun r => ∃ t, r = .va t ∧ ∃ e2, setO i t env = some e2 ∧ pd.nx e2) from q)⟩
  subst er
  exact br.nx S1 B1 _ H1 e2 g.e ((sr.res g r1).into se) q
end
end PL

/-! The pure layer, part 11: loops. -/
namespace PL
open PySem L2

theorem set_self {α : Type} {l : List α} {i : Nat} {x : α} (h : l[i]? = some x) : l.set i x = l := List.ext_getElem? fun j => by
  by_cases hj : i = j
  · subst hj
    rw [List.getElem?_set_self (List.getElem?_eq_some_iff.mp h).1, h]
  · rw [List.getElem?_set_ne hj]
section
variable {K : PySem.W.Frag} {S B H S' B' H' S1 B1 H1 : Hp} {σ : L2.St} {env env' : En} {v : V} {t : T} {F : List Addr} {c : Cell} {i : Nat}
/-- a slot is locked: what it owns is kept, though not shared -/
theorem SR.lock (sr : SR K S B H σ env) (e : env[i]? = some (.own none t)) : ∃ F, SR K S (joinF B H F) H σ (env.set i (.lk F t)) ∧ (∀ p ∈ F, B p = none) ∧ (∀ A : List Addr, (∀ c ov F, env[i]? = some c → σ[i]? = some ov → SlotOk K S B H c ov F → ∀ p ∈ A, p ∈ F) → ∀ p ∈ A, p ∈ F) := by
  obtain ⟨G, sl⟩ := sr.sl
  obtain ⟨ov, F, s1, s2, s3, s4⟩ := sl.focus e
  have s2' := s2
  obtain ⟨v, rfl, _, o, nb⟩ := s2
  obtain ⟨G', a, b⟩ := s4 (S' := S) (B' := joinF B H F) (H' := H) (c' := .lk F t) (ov' := some v) (F' := F) (.refl _) (fun p hp hn => ⟨rfl, fun z => by rw [joinF_out hn]; exact z, fun z1 z2 => by rw [joinF_out hn]; exact ⟨z1, z2⟩⟩)
    ⟨rfl, v, rfl, o, fun p hp => ⟨joinF_in hp, ex_none sr.sb (nb p hp)⟩⟩ fun p hp _ => hp
  rw [set_self s1] at a
  exact ⟨F, ⟨sr.sb.trans (ex_joinF sr.bh), joinF_ex sr.bh, G', a⟩, nb, fun A k => k _ _ _ e s1 s2'⟩
theorem SR.unlock (sr : SR K S' B' H' σ env) (ev : Evo S (joinF B H F) S' B') (bh : Ex B H) (nb : ∀ p ∈ F, B p = none) (e : env[i]? = some (.lk F t)) : ∃ B2, Evo S B S' B2 ∧ SR K S' B2 H' σ (env.set i (.own none t)) := by
  obtain ⟨G, sl⟩ := sr.sl
  obtain ⟨ov, F', s1, s2, s3, s4⟩ := sl.focus e
  obtain ⟨rfl, v, rfl, o, kb⟩ := s2
  let B2 : Hp := fun p => if p ∈ F' then none else B' p
  have b2i : ∀ {p}, p ∈ F' → B2 p = none := fun h => if_pos h
  have b2o : ∀ {p}, p ∉ F' → B2 p = B' p := fun h => if_neg h
  have le : Ex B2 B' := fun p o q => by
    by_cases h : p ∈ F'
    · rw [b2i h] at q; cases q
    · rwa [b2o h] at q
  obtain ⟨G', a, b⟩ := s4 (S' := S') (B' := B2) (H' := H') (c' := .own none t) (ov' := some v) (F' := F') (.refl _) (fun p hp hn => ⟨rfl, fun z => by rw [b2o hn]; exact z, fun z1 z2 => by rw [b2o hn]; exact ⟨z1, z2⟩⟩)
    ⟨v, rfl, (fun _ z => nomatch z), o, fun p hp => b2i hp⟩ fun p hp _ => hp
  rw [set_self s1] at a
  refine ⟨B2, ⟨ev.s, fun p o q => ?_, fun p a b => ex_none (ex_joinF bh) (ev.n p a b)⟩, fun p o q => ?_, le.trans sr.bh, G', a⟩
  · have hn : p ∉ F' := fun z => by rw [nb p z] at q; cases q
    rw [b2o hn]
    exact ev.b p o (ex_joinF bh p o q)
  · have hn : p ∉ F' := fun z => by rw [(kb p z).2] at q; cases q
    rw [b2o hn]
    exact sr.sb p o q
end

/-! ### for -/
def unlk (i : Nat) (F : List Addr) (k : En → Prop) (e : En) : Prop := ∃ t, e[i]? = some (.lk F t) ∧ k (e.set i (.own none t))
def loopD (items : List D) (tgt : Tgt) (body : PSt) (aft : En → Prop) (rt : T → En → Prop) (env : En) : Prop := ∃ P : Nat → En → Prop, P 0 env ∧
  (∀ k d env', items[k]? = some d → P k env' → ∃ e2, setT tgt d env' = some e2 ∧ body { nx := P (k + 1), ct := P (k + 1), bk := aft, rt := rt } e2) ∧ ∀ env', P items.length env' → aft env'
def forD (it : ItD) (tgt : Tgt) (body : PSt) (pd : PEnds) (env : En) : Prop := match it.lock with
  | none => loopD it.items tgt body pd.nx pd.rt env
  | some i => match env[i]? with
    | some (.lk _ _) => loopD it.items tgt body pd.nx pd.rt env
    | some (.own none t) => ∀ F, loopD it.items tgt body (unlk i F pd.nx) (fun t => unlk i F (pd.rt t)) (env.set i (.lk F t))
    | _ => False
def pFor (pi : PI') (tgt : Tgt) (body : PSt) : PSt := fun pd env => pi env fun it => forD it tgt body pd env
theorem unlk_mono {i : Nat} {F : List Addr} {k k' : En → Prop} (f : ∀ e, k e → k' e) {e : En} (h : unlk i F k e) : unlk i F k' e := let ⟨t, a, b⟩ := h; ⟨t, a, f _ b⟩
theorem loopD_mono {items : List D} {tgt : Tgt} {body : PSt} (mb : MonoS body) {aft aft' : En → Prop} {rt rt' : T → En → Prop} (fa : ∀ e, aft e → aft' e) (fr : ∀ t e, rt t e → rt' t e) {env : En} (h : loopD items tgt body aft rt env) : loopD items tgt body aft' rt' env := by
  obtain ⟨P, h0, hs, hd⟩ := h
  exact ⟨P, h0, fun k d env' e p => let ⟨e2, a, b⟩ := hs k d env' e p; ⟨e2, a, mb (a := { nx := P (k + 1), ct := P (k + 1), bk := aft, rt := rt }) _ ⟨fun _ h => h, fr, fa, fun _ h => h⟩ b⟩, fun env' p => fa _ (hd env' p)⟩
theorem forD_mono {it : ItD} {tgt : Tgt} {body : PSt} (mb : MonoS body) {a b : PEnds} (le : PLe a b) {env : En} (h : forD it tgt body a env) : forD it tgt body b env := by
  unfold forD at h ⊢
  split at h
  · exact loopD_mono mb le.nx le.rt h
  · split at h
    · exact loopD_mono mb le.nx le.rt h
    · exact fun F => loopD_mono mb (fun _ => unlk_mono le.nx) (fun t _ => unlk_mono (le.rt t)) (h F)
    · exact h.elim
section
variable {K : PySem.W.Frag} {S B H S1 B1 H1 : Hp} {σ : L2.St} {env : En}
theorem for_core {items : List D} {J : It} {tgt : Tgt} {body : PSt} {aft : En → Prop} {rt : T → En → Prop} {D : Ends} (jok : JOk K S1 B1 items J) (sr : SR K S1 B1 H1 σ env) (hl : loopD items tgt body aft rt env) (br : Bridge K S1 B1 { nx := aft, rt := rt } D) :
    ∃ W : Nat → Nat → L2.St → Hp → Prop, (∃ m, W 0 m σ H1) ∧ ∀ i m σ H, W i m σ H → (J.stop i H ∧ D.nx σ H) ∨ (J.go i H ∧ ∃ N : L2.St → Hp → Prop, (∀ σ' H', N σ' H' → ∃ m', m' < m ∧ W (i + 1) m' σ' H') ∧
      ∀ x H', J.yld i H x H' → tDG K tgt x σ H' fun σ2 H2 => tSd K body { D with nx := N, ct := N, bk := D.nx } σ2 H2) := by
  obtain ⟨P, h0, hs, hd⟩ := hl
  refine ⟨fun i m σ' H' => m = items.length - i ∧ i ≤ items.length ∧ ∃ S' B' env', Evo S1 B1 S' B' ∧ SR K S' B' H' σ' env' ∧ P i env', ⟨_, rfl, Nat.zero_le _, S1, B1, env, .refl _ _, sr, h0⟩, ?_⟩
  rintro i m σ' H' ⟨rfl, hi, S', B', env', ev, sr', p⟩
  obtain ⟨j1, j2, j3⟩ := jok i S' B' H' ev.s sr'.sb sr'.bh (ev.b.trans sr'.bh)
  by_cases hlt : i < items.length
  · refine .inr ⟨j1 hlt, fun σ2 H2 => i + 1 ≤ items.length ∧ ∃ S' B' env', Evo S1 B1 S' B' ∧ SR K S' B' H2 σ2 env' ∧ P (i + 1) env', fun σ2 H2 ⟨a, b⟩ => ⟨_, by omega, rfl, a, b⟩, fun x H3 y => ?_⟩
    obtain ⟨S3, B3, d, g3, ed, rd⟩ := j2 x H3 hlt y
    obtain ⟨e2, se, hb⟩ := hs i d env' ed p
    have ev3 := ev.trans g3.e
    exact ⟨S3, B3, env', d, e2, sr'.gro g3, rd, se, fun σ2 sr2 _ _ => ⟨S3, B3, e2, _, sr2, hb, ⟨fun S4 B4 σ4 H4 env4 ev4 sr4 q => ⟨hlt, S4, B4, env4, ev3.trans ev4, sr4, q⟩,
      fun S4 B4 σ4 H4 env4 ev4 sr4 q => br.nx S4 B4 σ4 H4 env4 (ev3.trans ev4) sr4 q, fun S4 B4 σ4 H4 env4 ev4 sr4 q => ⟨hlt, S4, B4, env4, ev3.trans ev4, sr4, q⟩, fun S4 B4 σ4 H4 env4 v t ev4 sr4 q => br.rt S4 B4 σ4 H4 env4 v t (ev3.trans ev4) sr4 q⟩⟩⟩
  · have e : i = items.length := by omega
    subst e
    exact .inl ⟨j3 rfl, br.nx S' B' σ' H' env' ev sr' (hd env' p)⟩
theorem for_read {pi : PI'} {tgt : Tgt} {body : PSt} {D : Ends} {σ : L2.St} {H : Hp} (mi : MonoI pi) (h : tSd K (pFor pi tgt body) D σ H) : tFor (tDI K pi) (tDG K tgt) (tSd K body) D σ H := by
  obtain ⟨S, B, env, pd, sr, h, br⟩ := h
  refine ⟨S, B, env, sr, mi env (fun it h S1 B1 H1 J A g1 lk => ?_) h⟩
  have sr1 := sr.gro g1
  have br1 := br.evo g1.e
  have br2 : Bridge K S1 B1 { nx := pd.nx, rt := pd.rt } D := ⟨br1.nx, fun _ _ _ _ _ _ _ z => False.elim z, fun _ _ _ _ _ _ _ z => False.elim z, br1.rt⟩
  unfold forD at h
  split at h
  · rename_i el
    have hA := lk.n el
    subst hA
    exact for_core (lk.j B1 g1.sb fun _ z => nomatch z) sr1 h br2
  · rename_i i el
    split at h
    · rename_i F0 t ec
      obtain ⟨G, sl⟩ := sr1.sl
      obtain ⟨ov, F, s1, s2, s3, s4⟩ := sl.focus ec
      have hA := lk.l i el _ _ _ ec s1 s2
      obtain ⟨rfl, v, rfl, o, kb⟩ := s2
      exact for_core (lk.j B1 g1.sb fun p hp => (kb p (hA p hp)).1) sr1 h br2
    · rename_i t ec
      obtain ⟨F, srl, nb, hA⟩ := sr1.lock ec
      have hA' := hA A (lk.l i el)
      refine for_core (lk.j _ srl.sb fun p hp => joinF_in (hA' p hp)) srl (h F) ⟨fun S' B' σ' H' env' ev sr' ⟨t', e', q⟩ => ?_, fun _ _ _ _ _ _ _ z => False.elim z, fun _ _ _ _ _ _ _ z => False.elim z, fun S' B' σ' H' env' v t2 ev sr' ⟨t', e', q⟩ => ?_⟩
      · obtain ⟨B2, ev2, sr2⟩ := sr'.unlock ev g1.bh nb e'
        exact br1.nx S' B2 σ' H' _ ev2 sr2 q
      · obtain ⟨B2, ev2, sr2⟩ := sr'.unlock (i := i + 1) ev g1.bh nb (by simpa using e')
        exact br1.rt S' B2 σ' H' _ v t2 ev2 sr2 q
    · exact h.elim
end
section
variable {X : Cx} {st : Stmt} {body : List Stmt} {e c tg iter : Expr} {pos : Pos} {p q : PSt} {pm : PXM} {pb : PB} {pi : PI'} {tgt : Tgt}
theorem ds_for (hp : PassesOwn (model X.prog X.w) X.A X.env X.xe) (hc : X.calm = true) (hi : PDI X tg iter pi) (hg : PDG X tg tgt) (hb : PDSs X body p) (hs : ∀ x, foldedSetIterable iter X.env x = pure x := by intro _; rfl) : PDS X (.For tg iter body [] pos) (pFor pi tgt p) :=
  ⟨PS.weak (ps_for hp hc hi.run hg.run hb.run hs) fun _ _ _ h => for_read hi.mono h, fun env le h => hi.mono env (fun it h => forD_mono hb.mono le h) h⟩

/-! ### while -/
def pWhile (c : PB) (body : PSt) : PSt := fun pd env => ∃ (P : En → Prop) (μ : En → Nat), P env ∧
  ∀ env', P env' → c env' fun b => if b = true then body { nx := fun e => P e ∧ μ e < μ env', ct := fun e => P e ∧ μ e < μ env', bk := pd.nx, rt := pd.rt } env' else pd.nx env'
theorem ds_while (hp : PassesOwn (model X.prog X.w) X.A X.env X.xe) (hc : PDT X c pb) (hb : PDSs X body p) : PDS X (.While c body [] pos) (pWhile pb p) := by
  refine ⟨PS.weak (ps_while hp hc.run hb.run) fun D σ H ⟨S, B, env, pd, sr, ⟨P, μ, h0, hs⟩, br⟩ => ?_, fun {pa pd'} env le ⟨P, μ, h0, hs⟩ => ⟨P, μ, h0, fun env' p => hc.mono env' (fun b h => ?_) (hs env' p)⟩⟩
  · refine ⟨fun m σ' H' => ∃ S' B' env', Evo S B S' B' ∧ SR X.K S' B' H' σ' env' ∧ P env' ∧ m = μ env', ⟨_, S, B, env, .refl _ _, sr, h0, rfl⟩, ?_⟩
    rintro m σ' H' ⟨S', B', env', ev, sr', p, rfl⟩
    refine ⟨S', B', env', sr', hc.mono env' (fun b h S1 B1 H1 g1 => ?_) (hs env' p)⟩
    have ev1 := ev.trans g1.e
    cases b with
    | true =>
      refine ⟨fun σ2 H2 => ∃ S' B' env2, Evo S B S' B' ∧ SR X.K S' B' H2 σ2 env2 ∧ P env2 ∧ μ env2 < μ env', fun σ2 H2 ⟨S2, B2, env2, a, b, c, l⟩ => ⟨_, l, S2, B2, env2, a, b, c, rfl⟩, S1, B1, env', _, sr'.gro g1, h, ?_⟩
      exact ⟨fun S4 B4 σ4 H4 env4 ev4 sr4 q => ⟨S4, B4, env4, ev1.trans ev4, sr4, q.1, q.2⟩, fun S4 B4 σ4 H4 env4 ev4 sr4 q => br.nx S4 B4 σ4 H4 env4 (ev1.trans ev4) sr4 q, fun S4 B4 σ4 H4 env4 ev4 sr4 q => ⟨S4, B4, env4, ev1.trans ev4, sr4, q.1, q.2⟩,
        fun S4 B4 σ4 H4 env4 v t ev4 sr4 q => br.rt S4 B4 σ4 H4 env4 v t (ev1.trans ev4) sr4 q⟩
    | false => exact br.nx S1 B1 σ' H1 env' ev1 (sr'.gro g1) h
  · cases b with
    | true => exact hb.mono (a := { nx := fun e => P e ∧ μ e < μ env', ct := fun e => P e ∧ μ e < μ env', bk := pa.nx, rt := pa.rt }) env' ⟨fun _ h => h, le.rt, le.nx, fun _ h => h⟩ h
    | false => exact le.nx _ h
end
end PL

/-! The pure layer, part 12: what is owned changes. -/
namespace PL
open PySem L2

def T.putAt : T → List Nat → T → T
  | _, [], c => c
  | .node sh ts, k :: π, c => .node sh (match ts[k]? with
    | some t => ts.set k (t.putAt π c)
    | none => ts)
  | .s d, _ :: _, _ => .s d
section
variable {K : PySem.W.Frag} {S B H S' B' H' : Hp} {σ : L2.St} {env : En} {v : V} {t u u1 : T} {F : List Addr} {i : Nat} {pin : Option V}
theorem Own.putAt : ∀ {π : List Nat} {t t1 : T} {v : V} {F : List Addr}, Own K S H v t F → t.at π = some t1 → ∃ w F1, At H v π w ∧ Own K S H w t1 F1 ∧ (∀ p ∈ F1, p ∈ F) ∧
    ∀ {S' H' : Hp} {t2 : T} {F2 : List Addr}, Ex S S' → (∀ p ∈ F, p ∉ F1 → H' p = H p) → Own K S' H' w t2 F2 → (∀ p ∈ F2, p ∈ F → p ∈ F1) → ∃ F', Own K S' H' v (t.putAt π t2) F' ∧ ∀ p ∈ F', p ∈ F2 ∨ (p ∈ F ∧ p ∉ F1)
  | [], t, t1, v, F, h, e => by
    have e' : t = t1 := by cases t <;> exact Option.some.inj e
    subst e'
    refine ⟨v, F, rfl, h, fun _ hp => hp, fun {S' H' t2 F2} hs k o d => ⟨F2, ?_, fun p hp => .inl hp⟩⟩
    cases t <;> exact o
  | k :: π, t, t1, v, F, h, e => by
    cases h with
    | s h => cases e
    | @node p o sh vs ts G h1 h2 h3 h4 h5 =>
      have e' : (ts[k]?).bind (fun c => c.at π) = some t1 := e
      cases q : ts[k]? with
      | none => rw [q] at e'; cases e'
      | some c =>
        rw [q] at e'
        obtain ⟨u, Fi, a1, a2, a3, a4⟩ := h4.focus q
        obtain ⟨w, F1, b1, b2, b3, b4⟩ := Own.putAt a2 e'
        have hsub : ∀ p ∈ F1, p ∈ G := fun x hx => a3 x (b3 x hx)
        refine ⟨w, F1, ⟨p, o, u, rfl, h1, by rw [h2.kids]; exact a1, b1⟩, b2, fun x hx => .tail _ (hsub x hx), fun {S' H' t2 F2} hs kp ow d => ?_⟩
        obtain ⟨Fc, c1, c2⟩ := b4 hs (fun x hx hn => kp x (.tail _ (a3 x hx)) hn) ow fun x hx hy => d x hx (.tail _ (a3 x hy))
        have nF2 : p ∉ F2 := fun z => h5 (hsub p (d p z (.head _)))
        have sub2 : ∀ x ∈ Fc, x ∈ G → x ∈ Fi := fun x hx hy => by
          rcases c2 x hx with z | z
          · exact b3 x (d x z (.tail _ hy))
          · exact z.1
        obtain ⟨G', d1, d2⟩ := a4 (S' := S') (H' := H') (v' := u) hs (fun x hx hn => kp x (.tail _ hx) fun z => hn (b3 x z)) c1 sub2
        rw [set_self a1] at d1
        refine ⟨p :: G', ?_, fun x hx => ?_⟩
        · show Own K S' H' (.ref p) (.node sh (match ts[k]? with
            | some t => ts.set k (t.putAt π t2)
            | none => ts)) (p :: G')
          rw [q]
          refine .node ((kp p (.head _) fun z => h5 (hsub p z)).trans h1) h2 h3 d1 fun z => ?_
          rcases d2 p z with y | y
          · rcases c2 p y with x | x
            · exact nF2 x
            · exact h5 (a3 p x.1)
          · exact h5 y.1
        · cases hx with
          | head => exact .inr ⟨.head _, fun z => h5 (hsub p z)⟩
          | tail _ hx =>
            rcases d2 x hx with y | y
            · rcases c2 x y with z | z
              · exact .inl z
              · exact .inr ⟨.tail _ (a3 x z.1), z.2⟩
            · exact .inr ⟨.tail _ y.1, fun z => y.2 (b3 x z)⟩
/-- what a slot owns is changed at a path; t beside the slots may go into it -/
theorem SR.mut {π : List Nat} (sr : SR K S B H (some v :: σ) (.own none t :: env)) (e : env[i]? = some (.own pin u)) (ea : u.at π = some u1) : ∃ v0 w F1 Ft, σ[i]? = some (some v0) ∧ At H v0 π w ∧ Own K S H w u1 F1 ∧ Own K S H v t Ft ∧ (∀ p ∈ Ft, p ∉ F1) ∧ (∀ p ∈ F1, B p = none) ∧ (∀ p ∈ Ft, B p = none) ∧
    ∀ {H' : Hp} {u2 : T} {F2 : List Addr}, (∀ p, p ∉ F1 → H p ≠ none → H' p = H p) → Own K S H' w u2 F2 → (∀ p ∈ F2, p ∈ F1 ∨ p ∈ Ft) → SR K S B H' σ (env.set i (.own pin (u.putAt π u2))) := by
  obtain ⟨G0, sl⟩ := sr.sl
  cases sl with
  | @cons _ _ _ _ Ft G s1 s2 s3 =>
    obtain ⟨v', z1, _, ot, nbt⟩ := s1
    cases z1
    obtain ⟨ov, F, a1, a2, a3, a4⟩ := s2.focus e
    obtain ⟨v0, rfl, hpin, ou, nb⟩ := a2
    obtain ⟨w, F1, b1, b2, b3, b4⟩ := ou.putAt ea
    refine ⟨v0, w, F1, Ft, a1, b1, b2, ot, fun p hp hq => s3 p hp (a3 p (b3 p hq)), fun p hp => nb p (b3 p hp), nbt, fun {H' u2 F2} k o d => ?_⟩
    have ne : ∀ p ∈ F, H p ≠ none := fun p hp => ou.ne hp
    obtain ⟨F', c1, c2⟩ := b4 (S' := S) (.refl _) (fun p hp hn => k p hn (ne p hp)) o fun p hp hq => by
      rcases d p hp with z | z
      · exact z
      · exact absurd (a3 p hq) (s3 p z)
    have nbF' : ∀ p ∈ F', B p = none := fun p hp => by
      rcases c2 p hp with z | z
      · rcases d p z with y | y
        · exact nb p (b3 p y)
        · exact nbt p y
      · exact nb p z.1
    obtain ⟨G', d1, d2⟩ := a4 (S' := S) (B' := B) (H' := H') (c' := .own pin (u.putAt π u2)) (ov' := some v0) (F' := F') (.refl _) (fun p hp hn => by
      obtain ⟨ob, eb, _⟩ := s2.ne p hp
      have hh : H' p = H p := k p (fun z => hn (b3 p z)) (by rw [eb]; exact fun z => nomatch z)
      exact ⟨hh, id, fun x y => ⟨by rw [hh]; exact x, y⟩⟩) ⟨v0, rfl, hpin, c1, nbF'⟩ fun p hp hq => by
        rcases c2 p hp with z | z
        · rcases d p z with y | y
          · exact b3 p y
          · exact absurd hq (s3 p y)
        · exact z.1
    rw [set_self a1] at d1
    refine ⟨sr.sb, fun p o q => ?_, G', d1⟩
    have hn : p ∉ F1 := fun z => by rw [nb p (b3 p z)] at q; cases q
    have := sr.bh p o q
    rw [k p hn (by rw [this]; exact fun z => nomatch z)]
    exact this
/-- the same with nothing beside -/
theorem SR.mut0 {π : List Nat} (sr : SR K S B H σ env) (e : env[i]? = some (.own pin u)) (ea : u.at π = some u1) : ∃ v0 w F1, σ[i]? = some (some v0) ∧ At H v0 π w ∧ Own K S H w u1 F1 ∧ (∀ p ∈ F1, B p = none) ∧
    ∀ {H' : Hp} {u2 : T} {F2 : List Addr}, (∀ p, p ∉ F1 → H p ≠ none → H' p = H p) → Own K S H' w u2 F2 → (∀ p ∈ F2, p ∈ F1) → SR K S B H' σ (env.set i (.own pin (u.putAt π u2))) := by
  obtain ⟨G, sl⟩ := sr.sl
  have sr2 : SR K S B H (some .non :: σ) (.own none (.s .non) :: env) := SR.cons sr.sb sr.bh sl (.s .non) (fun _ z => nomatch z) fun _ z => nomatch z
  obtain ⟨v0, w, F1, Ft, a, b, c, d, _, f, _, g⟩ := sr2.mut e ea
  exact ⟨v0, w, F1, a, b, c, f, fun k o d => g k o fun p hp => .inl (d p hp)⟩
theorem At.uniq {v0 v1 : V} {π : List Nat} {w w' : V} (a : At H v0 π w) (e : σ[i]? = some (some v0)) (e' : σ[i]? = some (some v1)) (a' : At H v1 π w') : w = w' := by
  rw [e] at e'
  cases e'
  exact a.inj a'
end

/-! ### append, extend, pop -/
/-- recv.append(e) -/
def pApp (po pe : PX) : PSt := fun pd env => po env fun ro => ∃ i π pin u ts, ro = .bo i π ∧ env[i]? = some (.own pin u) ∧ u.at π = some (.node .lst ts) ∧ ts.length < 16777216 ∧ pe env fun re => ∃ t, re = .va t ∧ pd.nx (env.set i (.own pin (u.putAt π (.node .lst (ts ++ [t])))))
/-- name.append(e), where e may change what the slots own -/
def pAppM (i : Nat) (pm : PXM) : PSt := fun pd env => (∃ pin u, env[i]? = some (.own pin (.node .lst u))) ∧ pm env fun t env' => ∃ pin ts, env'[i]? = some (.own pin (.node .lst ts)) ∧ ts.length < 16777216 ∧ pd.nx (env'.set i (.own pin (.node .lst (ts ++ [t]))))
def sApp (X : Cx) (to : TE) (t : TA) : TS := tDrop (tBM X.K "list" rAppend to t)
section
variable {X : Cx} {o e : Expr} {apos cpos pos : Pos} {po pe : PX} {pm : PXM} {i : Nat}
/-- a list grows -/
theorem app_core {K : PySem.W.Frag} {S B H : Hp} {σ : L2.St} {env : En} {v w : V} {t u : T} {pin : Option V} {π : List Nat} {ts : List T} (sr : SR K S B H (some v :: σ) (.own none t :: env)) (e : env[i]? = some (.own pin u)) (ea : u.at π = some (.node .lst ts)) (hl : ts.length < 16777216)
    (hw : ∃ v0, σ[i]? = some (some v0) ∧ At H v0 π w) : ∃ l xs, w = .ref l ∧ H l = some (.lst xs) ∧ xs.length < sizeLine ∧ SR K S B (upd H l (.lst (xs ++ [v]))) σ (env.set i (.own pin (u.putAt π (.node .lst (ts ++ [t]))))) := by
  obtain ⟨v0, w', F1, Ft, a1, a2, a3, a4, a5, a6, a7, a8⟩ := sr.mut e ea
  obtain ⟨v1, e1, at1⟩ := hw
  cases at1.uniq e1 a1 a2
  cases a3 with
  | @node l ob _ xs _ F h1 h2 h3 h4 h5 =>
    have h2 : ob = .lst xs := h2
    subst h2
    have lx := h4.len
    have hz := sizeLine_eq
    refine ⟨l, xs, rfl, h1, by omega, a8 (F2 := l :: (F ++ Ft)) (fun p hp hq => upd_ne fun z => hp (by rw [z]; exact .head _)) ?_ fun p hp => ?_⟩
    · have nl : l ∉ Ft := fun z => a5 l z (.head _)
      have one : OwnL K S H [v] [t] Ft := by
        have := OwnL.cons a4 OwnL.nil (fun p _ z => nomatch z)
        rwa [List.append_nil] at this
      have oA := h4.append one fun p hp hq => a5 p hq (.tail _ hp)
      have nA : l ∉ F ++ Ft := fun z => (List.mem_append.mp z).elim h5 nl
      refine .node upd_same rfl ?_ (oA.mono (.refl _) fun p hp => upd_ne fun z => nA (z ▸ hp)) nA
      rw [List.length_append]
      show xs.length + 1 ≤ _
      omega
    · cases hp with
      | head => exact .inl (.head _)
      | tail _ hp =>
        rcases List.mem_append.mp hp with hp | hp
        · exact .inl (.tail _ hp)
        · exact .inr hp
theorem list_at {K : PySem.W.Frag} {S B H S' B' H' : Hp} {σ : L2.St} {env : En} {v : V} {u : T} {pin : Option V} {π : List Nat} {ts : List T} (sr : SR K S B H σ env) (r : RR K S' B' H' H σ v (.bo i π)) (ec : env[i]? = some (.own pin u)) (ea : u.at π = some (.node .lst ts)) : ∃ l xs, v = .ref l ∧ H l = some (.lst xs) := by
  obtain ⟨v0, e0, at0⟩ := r
  obtain ⟨v0', w', F1, a1, a2, a3, _, _⟩ := sr.mut0 ec ea
  cases at0.uniq e0 a1 a2
  cases a3 with
  | @node l ob _ xs _ F h1 h2 h3 h4 h5 =>
    have h2 : ob = .lst xs := h2
    subst h2
    exact ⟨l, xs, rfl, h1⟩
theorem app_read {D : Ends} {σ : L2.St} {H : Hp} (ho : PD X o po) (he : PD X e pe) (h : tSd X.K (pApp po pe) D σ H) : tDrop (tBM X.K "list" rAppend (tD X.K po) (tCons (tD X.K pe) tNil)) D σ H := by
  obtain ⟨S, B, env, pd, sr, q, br⟩ := h
  refine ⟨S, B, env, sr, ho.mono env (fun ro ⟨i, π, pin, u, ts, e1, ec, ea, hl, q⟩ S1 B1 v1 H1 g1 r1 => ?_) q⟩
  have sr1 := sr.gro g1
  subst e1
  obtain ⟨l0, xs0, rfl, hl1⟩ := list_at sr1 r1 ec ea
  refine ⟨.inl ⟨rfl, _, SqL.of hl1⟩, S1, B1, env, sr1, he.mono env (fun re ⟨t, e2, q⟩ S2 B2 v2 H2 g2 r2 => ?_) q⟩
  subst e2
  obtain ⟨v0, e0, at0⟩ := r1
  obtain ⟨l, xs, ew, h1, h2, sr3⟩ := app_core (sr1.res g2 r2) ec ea hl ⟨v0, e0, at0.mono g2.h⟩
  cases ew
  exact ⟨_, xs, v2, rfl, rfl, h1, h2, br.nx S2 B2 σ _ _ (g1.trans g2).e sr3 q⟩
theorem app_mono (ho : PD X o po) (he : PD X e pe) : MonoS (pApp po pe) := fun env le q =>
  ho.mono env (fun ro ⟨i, π, pin, u, ts, e1, ec, ea, hl, q⟩ => ⟨i, π, pin, u, ts, e1, ec, ea, hl, he.mono env (fun re ⟨t, e2, q⟩ => ⟨t, e2, le.nx _ q⟩) q⟩) q

/-- o.append(e) -/
theorem ds_app (ho : PD X o po) (he : PD X e pe) (hbase : attributeBase o "append" X.env (eval o X.env) = eval o X.env := by rfl)
    (hfew : ((backTo cpos (starEach [e] X.env)).all (fun x => !x.1) && (backToKw cpos (keywordEach [] X.env)).all (fun x => x.1.isSome)
      && decide ([e].length + ([] : List Keyword).length + (if ([] : List Keyword).isEmpty then 0 else 1) < 30)) = true := by rfl)
    (hline : (apos.endLine == cpos.line) = true := by rfl) (hs : starEach [e] X.env = (false, eval e X.env) :: starEach [] X.env := by rfl) (hplain : (backTo cpos (starEach [] X.env)).any (·.1) = false := by rfl) (hw : swapsWith (.Call (.Attribute o "append" apos) [e] [] cpos) none pos.line X.env = pure false := by rfl) :
    PDS X (.Expr (.Call (.Attribute o "append" apos) [e] [] cpos) pos) (pApp po pe) :=
  ⟨PS.weak (ps_expr (pe_bm PySem.F.plainAttrs_list PySem.F.slot_list_append PySem.F.type_list_append mt_append ho.run (pa_cons he.run pa_nil hs) hbase hfew hline hs hplain) hw) fun D σ H h => app_read ho he h, app_mono ho he⟩
/-- name.append(e), e of any kind -/
theorem ds_appM {x : Str} {xpos : Pos} (hv : PE X (.Name x xpos) (tVar i)) (he : PDM X e pm) (hbase : attributeBase (.Name x xpos) "append" X.env (eval (.Name x xpos) X.env) = eval (.Name x xpos) X.env := by rfl)
    (hfew : ((backTo cpos (starEach [e] X.env)).all (fun x => !x.1) && (backToKw cpos (keywordEach [] X.env)).all (fun x => x.1.isSome)
      && decide ([e].length + ([] : List Keyword).length + (if ([] : List Keyword).isEmpty then 0 else 1) < 30)) = true := by rfl)
    (hline : (apos.endLine == cpos.line) = true := by rfl) (hs : starEach [e] X.env = (false, eval e X.env) :: starEach [] X.env := by rfl) (hplain : (backTo cpos (starEach [] X.env)).any (·.1) = false := by rfl) (hw : swapsWith (.Call (.Attribute (.Name x xpos) "append" apos) [e] [] cpos) none pos.line X.env = pure false := by rfl) :
    PDS X (.Expr (.Call (.Attribute (.Name x xpos) "append" apos) [e] [] cpos) pos) (pAppM i pm) := by
  refine ⟨PS.weak (ps_expr (pe_bm PySem.F.plainAttrs_list PySem.F.slot_list_append PySem.F.type_list_append mt_append hv (pa_cons he.run pa_nil hs) hbase hfew hline hs hplain) hw) fun D σ H ⟨S, B, env, pd, sr, ⟨⟨pin, u, ec⟩, q⟩, br⟩ => ?_, fun env le ⟨a, q⟩ => ⟨a, he.mono env (fun t env' ⟨pin, ts, a, b, q⟩ => ⟨pin, ts, a, b, le.nx _ q⟩) q⟩⟩
  obtain ⟨v0, w, F1, a1, a2, a3, a4, _⟩ := sr.mut0 ec (π := []) rfl
  have a2 : v0 = w := a2
  subst a2
  cases a3 with
  | @node l ob _ xs _ F h1 h2 h3 h4 h5 =>
    have h2 : ob = .lst xs := h2
    subst h2
    refine ⟨_, a1, .inl ⟨rfl, _, SqL.of h1⟩, S, B, env, sr, he.mono env (fun t env' ⟨pin', ts, ec', hl, q⟩ S2 B2 v2 H2 ev2 sr2 => ?_) q⟩
    obtain ⟨l2, xs2, ew, k1, k2, sr3⟩ := app_core sr2 ec' (π := []) rfl hl ⟨_, a1, rfl⟩
    cases ew
    exact ⟨_, xs2, v2, rfl, rfl, k1, k2, br.nx S2 B2 σ _ _ ev2 sr3 q⟩

/-! name.pop(), name.pop(i) -/
def pPop (i : Nat) : PXM := fun env k => ∃ pin ts t, env[i]? = some (.own pin (.node .lst ts)) ∧ ts[ts.length - 1]? = some t ∧ k t (env.set i (.own pin (.node .lst ts.dropLast)))
def pPopAt (i : Nat) (p : PX) : PXM := fun env k => ∃ pin ts, env[i]? = some (.own pin (.node .lst ts)) ∧ p env fun r => ∃ n j t, r = .va (.s (.int n)) ∧ -4611686018427387904 ≤ n ∧ n < 4611686018427387904 ∧ ixN ts.length n = some j ∧ ts[j]? = some t ∧ k t (env.set i (.own pin (.node .lst (ts.eraseIdx j))))
theorem OwnL.erase {K : PySem.W.Frag} {S H : Hp} : ∀ {ts : List T} {vs : List V} {F : List Addr} {j : Nat} {t : T}, OwnL K S H vs ts F → ts[j]? = some t → ∃ v Ft G, vs[j]? = some v ∧ Own K S H v t Ft ∧ OwnL K S H (vs.eraseIdx j) (ts.eraseIdx j) G ∧ (∀ p ∈ Ft, p ∈ F) ∧ (∀ p ∈ G, p ∈ F) ∧ ∀ p ∈ Ft, p ∉ G
  | [], _, _, _, _, _, e => by simp at e
  | t :: ts, _, _, j, x, h, e => by
    cases h with
    | @cons v vs _ _ F G h1 h2 h3 =>
      cases j with
      | zero =>
        simp at e
        subst e
        exact ⟨v, F, G, rfl, h1, h2, fun p hp => List.mem_append_left _ hp, fun p hp => List.mem_append_right _ hp, h3⟩
      | succ j =>
        obtain ⟨w, Ft, G', a, b, c, d, f, g⟩ := OwnL.erase h2 (show ts[j]? = some x by simpa using e)
        refine ⟨w, Ft, F ++ G', by simpa using a, b, .cons h1 c fun p hp hq => h3 p hp (f p hq), fun p hp => List.mem_append_right _ (d p hp), fun p hp => ?_, fun p hp hq => ?_⟩
        · rcases List.mem_append.mp hp with hp | hp
          · exact List.mem_append_left _ hp
          · exact List.mem_append_right _ (f p hp)
        · rcases List.mem_append.mp hq with hq | hq
          · exact h3 p hq (d p hp)
          · exact g p hp hq
/-- an item is taken out of a list -/
theorem pop_core {K : PySem.W.Frag} {S B H : Hp} {σ : L2.St} {env : En} {pin : Option V} {ts : List T} {j : Nat} {t : T} (sr : SR K S B H σ env) (ec : env[i]? = some (.own pin (.node .lst ts))) (et : ts[j]? = some t) :
    ∃ l xs v, σ[i]? = some (some (.ref l)) ∧ H l = some (.lst xs) ∧ xs[j]? = some v ∧ xs.length = ts.length ∧ SR K S B (upd H l (.lst (xs.eraseIdx j))) (some v :: σ) (.own none t :: env.set i (.own pin (.node .lst (ts.eraseIdx j)))) := by
  obtain ⟨G, sl⟩ := sr.sl
  obtain ⟨ov, F, s1, s2, s3, s4⟩ := sl.focus ec
  obtain ⟨v0, rfl, hpin, o, nb⟩ := s2
  cases o with
  | @node l ob _ xs _ F h1 h2 h3 h4 h5 =>
    have h2 : ob = .lst xs := h2
    subst h2
    obtain ⟨v, Ft, G1, a, b, c, d, f, g⟩ := h4.erase et
    have nb' : ∀ p ∈ F, B p = none := fun p hp => nb p (.tail _ hp)
    have bl : B l = none := nb l (.head _)
    have up : ∀ {p}, p ≠ l → upd H l (.lst (xs.eraseIdx j)) p = H p := fun h => upd_ne h
    obtain ⟨G', x1, x2⟩ := s4 (S' := S) (B' := B) (H' := upd H l (.lst (xs.eraseIdx j))) (c' := .own pin (.node .lst (ts.eraseIdx j))) (ov' := some (.ref l)) (F' := l :: G1) (.refl _)
      (fun p hp hn => by
        have e : upd H l (.lst (xs.eraseIdx j)) p = H p := up fun z => hn (by rw [z]; exact .head _)
        exact ⟨e, id, fun y z => ⟨by rw [e]; exact y, z⟩⟩)
      ⟨_, rfl, hpin, .node upd_same rfl (Nat.le_trans (len_erase _ _) h3) (c.mono (.refl _) fun p hp => up fun z => h5 (f l (z ▸ hp))) fun z => h5 (f l z), fun p hp => by
        cases hp with
        | head => exact bl
        | tail _ hp => exact nb' p (f p hp)⟩ (fun p hp hq => by
        cases hp with
        | head => exact .head _
        | tail _ hp => exact .tail _ (f p hp))
    rw [set_self s1] at x1
    refine ⟨l, xs, v, s1, h1, a, h4.len, sr.sb, fun p q e => ?_, Ft ++ G', .cons ⟨v, rfl, (fun _ z => nomatch z), b.mono (.refl _) fun p hp => up fun z => h5 (d l (z ▸ hp)), fun p hp => nb' p (d p hp)⟩ x1 fun p hp hq => ?_⟩
    · rw [up fun z => by rw [z, bl] at e; cases e]
      exact sr.bh p q e
    · rcases x2 p hq with z | z
      · cases z with
        | head => exact h5 (d l hp)
        | tail _ z => exact g p hp z
      · exact z.2 (.tail _ (d p hp))
theorem drop_last {α : Type} (xs : List α) : xs.eraseIdx (xs.length - 1) = xs.dropLast := by
  rw [List.dropLast_eq_take, List.eraseIdx_eq_take_drop_succ]
  by_cases h : xs.length = 0
  · have : xs = [] := List.length_eq_zero_iff.mp h
    subst this
    rfl
  · rw [List.drop_eq_nil_of_le (by omega), List.append_nil]
theorem dm_pop {x : Str} {xpos : Pos} (hv : PE X (.Name x xpos) (tVar i)) (hbase : attributeBase (.Name x xpos) "pop" X.env (eval (.Name x xpos) X.env) = eval (.Name x xpos) X.env := by rfl) (hline : (apos.endLine == cpos.line) = true := by rfl) :
    PDM X (.Call (.Attribute (.Name x xpos) "pop" apos) [] [] cpos) (pPop i) := by
  refine ⟨PE.weak (pe_bm0 PySem.F.plainAttrs_list PySem.F.slot_list_pop PySem.F.type_list_pop mt_pop hv hbase hline) fun σ H Q ⟨S, B, env, sr, pin, ts, t, ec, et, q⟩ => ?_, fun env P Q f ⟨pin, ts, t, a, b, q⟩ => ⟨pin, ts, t, a, b, f _ _ q⟩⟩
  obtain ⟨l, xs, v, e1, h1, e2, e3, sr2⟩ := pop_core sr ec et
  rw [drop_last, ← e3, drop_last] at sr2
  exact ⟨_, e1, .inl ⟨rfl, _, SqL.of h1⟩, l, xs, v, rfl, rfl, h1, by rw [e3]; exact e2, q S B v _ (.refl _ _) sr2⟩
theorem dm_popAt {x : Str} {xpos : Pos} (hv : PE X (.Name x xpos) (tVar i)) (he : PD X e pe) (hbase : attributeBase (.Name x xpos) "pop" X.env (eval (.Name x xpos) X.env) = eval (.Name x xpos) X.env := by rfl)
    (hfew : ((backTo cpos (starEach [e] X.env)).all (fun x => !x.1) && (backToKw cpos (keywordEach [] X.env)).all (fun x => x.1.isSome)
      && decide ([e].length + ([] : List Keyword).length + (if ([] : List Keyword).isEmpty then 0 else 1) < 30)) = true := by rfl)
    (hline : (apos.endLine == cpos.line) = true := by rfl) (hs : starEach [e] X.env = (false, eval e X.env) :: starEach [] X.env := by rfl) (hplain : (backTo cpos (starEach [] X.env)).any (·.1) = false := by rfl) :
    PDM X (.Call (.Attribute (.Name x xpos) "pop" apos) [e] [] cpos) (pPopAt i pe) := by
  refine ⟨PE.weak (pe_bm PySem.F.plainAttrs_list PySem.F.slot_list_pop PySem.F.type_list_pop mt_popAt hv (pa_cons he.run pa_nil hs) hbase hfew hline hs hplain) fun σ H Q ⟨S, B, env, sr, pin, ts, ec, q⟩ => ?_, fun env P Q f ⟨pin, ts, a, q⟩ => ⟨pin, ts, a, he.mono env (fun r ⟨n, j, t, a, b, c, d, g, q⟩ => ⟨n, j, t, a, b, c, d, g, f _ _ q⟩) q⟩⟩
  obtain ⟨v0, w, F1, a1, a2, a3, a4, _⟩ := sr.mut0 ec (π := []) rfl
  have a2 : v0 = w := a2
  subst a2
  cases a3 with
  | @node l ob _ xs _ F h1 h2 h3 h4 h5 =>
    have h2 : ob = .lst xs := h2
    subst h2
    refine ⟨_, a1, .inl ⟨rfl, _, SqL.of h1⟩, S, B, env, sr, he.mono env (fun r ⟨n, j, t, er, b1, b2, hj, et, q⟩ S2 B2 v2 H2 g2 r2 => ?_) q⟩
    subst er
    rw [r2.int]
    obtain ⟨l2, xs2, v, e1, k1, e2, e3, sr2⟩ := pop_core (sr.gro g2) ec et
    rw [a1] at e1
    cases e1
    have hix : ixN xs2.length n = some j := by rw [e3]; exact hj
    exact ⟨_, xs2, n, j, v, rfl, rfl, k1, by omega, by omega, (ixN_seq hix).1, e2, q S2 B2 v _ g2.e sr2⟩
end
end PL

/-! The pure layer, part 13: stores at a subscript, extend. -/
namespace PL
open PySem L2

def putD {κ : Type} [DecidableEq κ] (mk : List κ → Shape) (ks : List κ) (ts : List T) (key : κ) (t : T) : T := match ixK ks key with
  | some j => .node (mk ks) (ts.set j t)
  | none => .node (mk (ks ++ [key])) (ts ++ [t])
def setSub (u : T) (d : D) (t : T) (k : T → Prop) : Prop := match u with
  | .node .lst ts => ∃ n j, d = .int n ∧ ixN ts.length n = some j ∧ k (.node .lst (ts.set j t))
  | .node (.dK ks) ts => ∃ key, d.key = some key ∧ ts.length < 16777216 ∧ k (putD .dK ks ts key t)
  | .node (.dT ks) ts => ∃ key, d.keyT = some key ∧ ts.length < 16777216 ∧ k (putD .dT ks ts key t)
  | _ => False
theorem setSub_mono (u : T) (d : D) (t : T) {P Q : T → Prop} (f : ∀ t, P t → Q t) (h : setSub u d t P) : setSub u d t Q := by
  unfold setSub at h ⊢
  split at h
  · obtain ⟨n, j, a, b, h⟩ := h; exact ⟨n, j, a, b, f _ h⟩
  · obtain ⟨key, a, b, h⟩ := h; exact ⟨key, a, b, f _ h⟩
  · obtain ⟨key, a, b, h⟩ := h; exact ⟨key, a, b, f _ h⟩
  · exact h.elim
def pSetI (pm : PXM) (po pi : PX) : PSt := fun pd env => pm env fun t env' => po env' fun ro => pi env' fun ri => ∃ i π pin u u1 td, ro = .bo i π ∧ env'[i]? = some (.own pin u) ∧ u.at π = some u1 ∧ ri.tr env' = some td ∧ setSub u1 td.er t fun u2 => pd.nx (env'.set i (.own pin (u.putAt π u2)))
theorem ixK_some {κ : Type} [DecidableEq κ] : ∀ {ks : List κ} {k : κ} {j : Nat}, ixK ks k = some j → ks[j]? = some k
  | [], _, _, h => by simp [ixK] at h
  | a :: ks, k, j, h => by
    unfold ixK at h
    rw [List.findIdx?_cons] at h
    by_cases e : a = k
    · simp [e] at h
      subst h
      simp [e]
    · simp only [e, decide_false, Bool.false_eq_true, if_false, Option.map_eq_some_iff] at h
      obtain ⟨j', h1, rfl⟩ := h
      simpa using ixK_some (show ixK ks k = some j' from h1)
theorem ixK_none {κ : Type} [DecidableEq κ] {ks : List κ} {k : κ} (h : ixK ks k = none) : k ∉ ks := fun z => by
  unfold ixK at h
  rw [List.findIdx?_eq_none_iff] at h
  simpa using h k z
theorem zip_repl {κ : Type} [DecidableEq κ] : ∀ {ks : List κ} {vs : List V} {k : κ} {j : Nat} (v : V), ks.Nodup → ks[j]? = some k → ks.length = vs.length → ((ks.zip vs).map fun kv => if kv.1 = k then (kv.1, v) else kv) = ks.zip (vs.set j v)
  | [], _, _, _, _, _, h, _ => by simp at h
  | a :: ks, [], _, _, _, _, _, h => by simp at h
  | a :: ks, x :: vs, k, j, v, nd, h, hl => by
    have nd' := List.nodup_cons.mp nd
    cases j with
    | zero =>
      simp at h
      subst h
      have : ((ks.zip vs).map fun kv => if kv.1 = a then (kv.1, v) else kv) = ks.zip vs := by
        conv => rhs; rw [← List.map_id (ks.zip vs)]
        refine List.map_congr_left fun q hq => ?_
        have hm := (List.of_mem_zip hq).1
        have hne : ¬ q.1 = a := fun e => nd'.1 (by rw [← e]; exact hm)
        rw [if_neg hne]
        rfl
      rw [List.zip_cons_cons, List.map_cons, this]
      simp
    | succ j =>
      have h' : ks[j]? = some k := by simpa using h
      have na : a ≠ k := fun e => nd'.1 (e ▸ List.mem_of_getElem? h')
      rw [List.zip_cons_cons, List.map_cons, zip_repl v nd'.2 h' (by simpa using hl), if_neg na]
      rfl
theorem putK_zip {κ : Type} [DecidableEq κ] {ks : List κ} {vs : List V} {k : κ} {v : V} (nd : ks.Nodup) (hl : ks.length = vs.length) : putK (ks.zip vs) k v = (match ixK ks k with
    | some j => ks.zip (vs.set j v)
    | none => (ks ++ [k]).zip (vs ++ [v])) := by
  unfold putK
  rw [valV_any, valV_some hl]
  cases h : ixK ks k with
  | some j =>
    have hj := ixK_some h
    have hm : memK ks k = true := by
      unfold memK
      rw [List.any_eq_true]
      exact ⟨k, List.mem_of_getElem? hj, by simp⟩
    rw [hm, if_pos rfl]
    exact zip_repl v nd hj hl
  | none =>
    have hm : memK ks k = false := by
      unfold memK
      rw [List.any_eq_false]
      intro x hx
      have := ixK_none h
      simp only [decide_eq_true_eq]
      exact fun e => this (e ▸ hx)
    rw [hm, if_neg Bool.false_ne_true, List.zip_append hl]
    rfl
section
variable {K : PySem.W.Frag} {S B H : Hp} {σ : L2.St} {env : En} {v w : V} {t u u1 : T} {pin : Option V} {π : List Nat} {i : Nat}
def rSetU : V → V → V → Hp → (Hp → Prop) → Prop := fun o i v H Q => rSetL o i v H Q ∨ rSetD o i v H Q
/-- a store at a subscript, by values -/
theorem set_core {d : D} {iv : V} {k : T → Prop} {Q : Hp → Prop} (sr : SR K S B H (some v :: σ) (.own none t :: env)) (e : env[i]? = some (.own pin u)) (ea : u.at π = some u1) (hw : ∃ v0, σ[i]? = some (some v0) ∧ At H v0 π w) (ri : Rep K H iv d) (hs : setSub u1 d t k)
    (q : ∀ H' u2, SR K S B H' σ (env.set i (.own pin (u.putAt π u2))) → k u2 → Q H') : rSetU w iv v H Q := by
  obtain ⟨v0, w', F1, Ft, a1, a2, a3, a4, a5, a6, a7, a8⟩ := sr.mut e ea
  obtain ⟨v1, e1, at1⟩ := hw
  cases at1.uniq e1 a1 a2
  have hz := sizeLine_eq
  -- an item of the node is replaced
  have repl : ∀ {l : Addr} {sh : Shape} {vs : List V} {ts : List T} {F : List Addr} {ob' : HO} {j : Nat}, w = .ref l → F1 = l :: F → OwnL K S H vs ts F → l ∉ F → vs.length ≤ sizeLine → j < ts.length → ShO sh (vs.set j v) ob' → SR K S B (upd H l ob') σ (env.set i (.own pin (u.putAt π (.node sh (ts.set j t))))) := by
    intro l sh vs ts F ob' j ew eF ol nl hl hj hsh
    subst ew eF
    obtain ⟨c, hc⟩ : ∃ c, ts[j]? = some c := ⟨_, List.getElem?_eq_getElem hj⟩
    obtain ⟨x, Fj, b1, b2, b3, b4⟩ := ol.focus hc
    have up : ∀ {p}, p ≠ l → upd H l ob' p = H p := fun h => upd_ne h
    have nlt : l ∉ Ft := fun z => a5 l z (.head _)
    obtain ⟨G, c1, c2⟩ := b4 (S' := S) (H' := upd H l ob') (v' := v) (t' := t) (F' := Ft) (.refl _) (fun p hp _ => up fun z => nl (z ▸ hp)) (a4.mono (.refl _) fun p hp => up fun z => nlt (z ▸ hp)) fun p hp hq => absurd (.tail _ hq) (a5 p hp)
    have nG : l ∉ G := fun z => (c2 l z).elim nlt fun y => nl y.1
    refine a8 (F2 := l :: G) (fun p hp hq => up fun z => hp (by rw [z]; exact .head _)) (.node upd_same hsh (by rw [List.length_set]; exact hl) c1 nG) fun p hp => ?_
    cases hp with
    | head => exact .inl (.head _)
    | tail _ hp =>
      rcases c2 p hp with z | z
      · exact .inr z
      · exact .inl (.tail _ z.1)
  -- an item is put behind
  have app : ∀ {l : Addr} {sh : Shape} {vs : List V} {ts : List T} {F : List Addr} {ob' : HO}, w = .ref l → F1 = l :: F → OwnL K S H vs ts F → l ∉ F → vs.length < sizeLine → ShO sh (vs ++ [v]) ob' → SR K S B (upd H l ob') σ (env.set i (.own pin (u.putAt π (.node sh (ts ++ [t]))))) := by
    intro l sh vs ts F ob' ew eF ol nl hl hsh
    subst ew eF
    have up : ∀ {p}, p ≠ l → upd H l ob' p = H p := fun h => upd_ne h
    have nlt : l ∉ Ft := fun z => a5 l z (.head _)
    have one : OwnL K S H [v] [t] Ft := by
      have := OwnL.cons a4 OwnL.nil (fun p _ z => nomatch z)
      rwa [List.append_nil] at this
    have oA := ol.append one fun p hp hq => a5 p hq (.tail _ hp)
    have nA : l ∉ F ++ Ft := fun z => (List.mem_append.mp z).elim nl nlt
    refine a8 (F2 := l :: (F ++ Ft)) (fun p hp hq => up fun z => hp (by rw [z]; exact .head _)) (.node upd_same hsh (by rw [List.length_append]; show vs.length + 1 ≤ _; omega) (oA.mono (.refl _) fun p hp => up fun z => nA (z ▸ hp)) nA) fun p hp => ?_
    cases hp with
    | head => exact .inl (.head _)
    | tail _ hp =>
      rcases List.mem_append.mp hp with z | z
      · exact .inl (.tail _ z)
      · exact .inr z
  unfold setSub at hs
  split at hs
  · rename_i ts
    obtain ⟨n, j, ed, hj, hk⟩ := hs
    subst ed
    cases ri
    cases a3 with
    | @node l ob _ xs _ F h1 h2 h3 h4 h5 =>
      have h2 : ob = .lst xs := h2
      subst h2
      have lx := h4.len
      rw [← lx] at hj
      have hj2 := (ixN_seq hj).2.1
      exact .inl ⟨l, xs, n, j, rfl, rfl, h1, hj, q _ _ (repl (sh := .lst) rfl rfl h4 h5 h3 (by omega) rfl) hk⟩
  · rename_i ks ts
    obtain ⟨key, ed, hl, hk⟩ := hs
    have hiv := key_rep ri ed
    cases a3 with
    | @node l ob _ xs _ F h1 h2 h3 h4 h5 =>
      obtain ⟨l1, rfl, nd⟩ := h2
      have lx := h4.len
      refine .inr ⟨l, _, rfl, .inl ⟨_, key, h1, hiv, by rw [len_zip l1]; omega, rfl⟩, ?_⟩
      rw [putK_zip nd l1]
      unfold putD at hk
      cases hx : ixK ks key with
      | some j =>
        rw [hx] at hk
        have hj := (List.getElem?_eq_some_iff.mp (ixK_some hx)).1
        exact q _ _ (repl (sh := .dK ks) rfl rfl h4 h5 h3 (by omega) ⟨by rw [List.length_set]; exact l1, rfl, nd⟩) hk
      | none =>
        rw [hx] at hk
        refine q _ _ (app (sh := .dK (ks ++ [key])) rfl rfl h4 h5 (by omega) ⟨by rw [List.length_append, List.length_append, l1]; rfl, rfl, ?_⟩) hk
        exact List.nodup_append.mpr ⟨nd, List.nodup_cons.mpr ⟨(fun z => nomatch z), List.nodup_nil⟩, fun a ha b hb => by
          cases List.mem_singleton.mp hb
          exact fun z => ixK_none hx (z ▸ ha)⟩
  · rename_i ks ts
    obtain ⟨key, ed, hl, hk⟩ := hs
    obtain ⟨b, hiv, hb⟩ := keyT_rep ri ed
    cases a3 with
    | @node l ob _ xs _ F h1 h2 h3 h4 h5 =>
      obtain ⟨l1, rfl, nd⟩ := h2
      have lx := h4.len
      refine .inr ⟨l, _, rfl, .inr ⟨_, key, b, h1, hiv, hb, by rw [len_zip l1]; omega, rfl⟩, ?_⟩
      rw [putK_zip nd l1]
      unfold putD at hk
      cases hx : ixK ks key with
      | some j =>
        rw [hx] at hk
        have hj := (List.getElem?_eq_some_iff.mp (ixK_some hx)).1
        exact q _ _ (repl (sh := .dT ks) rfl rfl h4 h5 h3 (by omega) ⟨by rw [List.length_set]; exact l1, rfl, nd⟩) hk
      | none =>
        rw [hx] at hk
        refine q _ _ (app (sh := .dT (ks ++ [key])) rfl rfl h4 h5 (by omega) ⟨by rw [List.length_append, List.length_append, l1]; rfl, rfl, ?_⟩) hk
        exact List.nodup_append.mpr ⟨nd, List.nodup_cons.mpr ⟨(fun z => nomatch z), List.nodup_nil⟩, fun a ha b hb => by
          cases List.mem_singleton.mp hb
          exact fun z => ixK_none hx (z ▸ ha)⟩
  · exact hs.elim
end
section
variable {X : Cx} {o ix e : Expr} {spos pos : Pos} {po pi pe : PX} {pm : PXM} {k : Nat}
theorem set_all (hu : X.A.units + 1 < cLine) : PSet X rSetU := by
  intro pins s σ H o i v ov iv u Q I r1 r2 r3 h
  rcases h with h | h
  · exact set_list pins s σ H o i v ov iv u Q I r1 r2 r3 h
  · exact set_dict hu pins s σ H o i v ov iv u Q I r1 r2 r3 h
/-- o[ix] = e -/
theorem ds_setI (hr : Room k X.A) (he : PDM X e pm) (ho : PD X o po) (hi : PD X ix pi) (ha : ∀ v, assign (.Subscript o ix spos) X.env v = (do
      let ov ← holding [v] (eval o X.env)
      let iv ← holding [v, ov] (eval ix X.env)
      standAt spos
      holding [v, ov, iv] (setItem ov iv v)
      release [v, ov, iv] []) := by intro _; rfl) (hs : swapsWithSole [.Subscript o ix spos] e pos.line X.env = pure false := by rfl) (hw : swappedStores [.Subscript o ix spos] e X.env = pure none := by rfl) (h1 : (assignEach [.Subscript o ix spos] X.env).map (·.2) = [assign (.Subscript o ix spos) X.env] := by rfl) :
    PDS X (.Assign [.Subscript o ix spos] e pos) (pSetI pm po pi) := by
  refine ⟨PS.weak (ps_asg he.run (pg_sub ho.run hi.run (set_all (hu1 hr)) ha) hs hw h1) fun D σ H ⟨S, B, env, pd, sr, q, br⟩ => ⟨S, B, env, sr, he.mono env (fun t env' q S1 B1 v H1 ev1 sr1 => ?_) q⟩,
    fun env le q => he.mono env (fun t env' q => ho.mono env' (fun ro q => hi.mono env' (fun ri ⟨i, π, pin, u, u1, td, a, b, c, d, q⟩ => ⟨i, π, pin, u, u1, td, a, b, c, d, setSub_mono _ _ _ (fun u2 q => le.nx _ q) q⟩) q) q) q⟩
  refine ⟨S1, B1, env', sr1.uncons, ho.mono env' (fun ro q S2 B2 vo H2 g2 r2 => ?_) q⟩
  refine ⟨S2, B2, env', sr1.uncons.gro g2, hi.mono env' (fun ri ⟨i, π, pin, u, u1, td, e1, ec, ea, et, q3⟩ S3 B3 vi H3 g3 r3 => ?_) q⟩
  subst e1
  obtain ⟨v0, e0, at0⟩ := r2
  have sr3 := (sr1.gro g2).gro g3
  exact set_core sr3 ec ea ⟨v0, e0, at0.mono g3.h⟩ (r3.rep sr3.uncons et) q3 fun H' u2 sr4 q => br.nx S3 B3 σ H' _ ((ev1.trans g2.e).trans g3.e) sr4 q
end
end PL

/-! The pure layer, part 14: a def by its body; a call that changes one argument. -/
namespace PL
open PySem L2

/-- what is promised of a def: pre of the arguments (a: a name of one's own for what they are), post of the result and of what has become of them -/
structure Spc where
  α : Type
  pre : List T → α → Prop
  post : α → T → List T → Prop
def spS (s : Spc) : FSp := fun ts k => ∃ a, s.pre ts a ∧ ∀ t outs, s.post a t outs → k t outs
theorem spS_mono (s : Spc) : MonoF (spS s) := fun ts P Q f ⟨a, h, q⟩ => ⟨a, h, fun t outs p => f _ _ (q t outs p)⟩
/-- .. of one that only reads its arguments -/
structure SpcP where
  α : Type
  pre : List D → α → Prop
  post : α → T → Prop
def SpcP.s (s : SpcP) : Spc := ⟨s.α, fun ts a => ∃ ds, ts = ds.map T.s ∧ s.pre ds a, fun a t _ => s.post a t⟩
inductive Outs : List V → List T → En → List T → Prop
  | nil {env : En} : Outs [] [] env []
  | s {v : V} {vs : List V} {d : D} {ts us : List T} {env : En} : Outs vs ts env.tail us → Outs (v :: vs) (.s d :: ts) env (.s d :: us)
  | own {v : V} {vs : List V} {sh : Shape} {ks : List T} {t : T} {ts us : List T} {env : En} : Outs vs ts env us → Outs (v :: vs) (.node sh ks :: ts) (.own (some v) t :: env) (t :: us)
def startE (N : List Str) (vs : List V) (ts : List T) : En := argCells vs ts ++ List.replicate (N.length - vs.length) .un
def startP (N : List Str) (ds : List D) : En := ds.map (fun d => Cell.own none (.s d)) ++ List.replicate (N.length - ds.length) .un
section
variable {K : PySem.W.Frag} {S B H S' B' H' S0 B0 H0 : Hp} {σ : L2.St} {env : En} {G G0 : List Addr}
theorem slots_un : ∀ n : Nat, SlotsOk K S B H (List.replicate n .un) (List.replicate n none) []
  | 0 => .nil
  | n + 1 => by
    rw [List.replicate_succ, List.replicate_succ]
    exact .cons (F := []) (G := []) rfl (slots_un n) fun _ z => nomatch z
theorem SlotsOk.app : ∀ {env : En} {σ : L2.St} {G : List Addr} {env2 : En} {σ2 : L2.St}, SlotsOk K S B H env σ G → SlotsOk K S B H env2 σ2 [] → SlotsOk K S B H (env ++ env2) (σ ++ σ2) G
  | _, _, _, _, _, .nil, h => h
  | _, _, _, _, _, .cons h1 h2 h3, h => .cons h1 (SlotsOk.app h2 h) h3
theorem sr_start {N : List Str} {vs : List V} {ts : List T} (sr : SR K S B H (vs.map some) (argCells vs ts)) : SR K S B H (L2.start N vs) (startE N vs ts) := by
  obtain ⟨G, sl⟩ := sr.sl
  exact ⟨sr.sb, sr.bh, G, sl.app (slots_un _)⟩
theorem argCell_ok {v : V} {t : T} {F : List Addr} (o : Own K S H v t F) (nb : ∀ p ∈ F, B p = none) : SlotOk K S B H (argCell v t) (some v) F := by
  cases t with
  | s d => exact ⟨v, rfl, (fun _ z => nomatch z), o, nb⟩
  | node sh ks => exact ⟨v, rfl, fun w e => Option.some.inj e, o, nb⟩
theorem argCell_own {v : V} {t : T} {ov : Option V} {F : List Addr} (h : SlotOk K S B H (argCell v t) ov F) (e : ov = some v) : Own K S H v t F ∧ ∀ p ∈ F, B p = none := by
  cases t with
  | s d =>
    obtain ⟨v', e1, _, o, nb⟩ := h
    rw [e] at e1
    cases e1
    exact ⟨o, nb⟩
  | node sh ks =>
    obtain ⟨v', e1, _, o, nb⟩ := h
    rw [e] at e1
    cases e1
    exact ⟨o, nb⟩
theorem outs_slots (es : Ex S0 S') : ∀ {vs : List V} {ts us : List T} {env : En} {σ : L2.St} {G G0 : List Addr}, Outs vs ts env us → SlotsOk K S0 B0 H0 (argCells vs ts) (vs.map some) G0 → SlotsOk K S' B' H' env σ G → ∃ G', SlotsOk K S' B' H' (argCells vs us) (vs.map some) G' ∧ ∀ p ∈ G', p ∈ G
  | _, _, _, _, _, _, _, .nil, _, _ => ⟨[], .nil, fun _ z => nomatch z⟩
  | _, _, _, _, σ, G, _, @Outs.s v vs d ts us env h, h0, sl => by
    cases h0 with
    | cons h1 h2 h3 =>
      obtain ⟨o, _⟩ := argCell_own (t := .s d) h1 rfl
      cases o with
      | s o =>
        have tl : ∃ σ2 G2, SlotsOk K S' B' H' env.tail σ2 G2 ∧ ∀ p ∈ G2, p ∈ G := by
          cases sl with
          | nil => exact ⟨[], [], .nil, fun _ z => nomatch z⟩
          | cons s1 s2 s3 => exact ⟨_, _, s2, fun p hp => List.mem_append_right _ hp⟩
        obtain ⟨σ2, G2, sl2, sub⟩ := tl
        obtain ⟨G', a, b⟩ := outs_slots es h h2 sl2
        exact ⟨[] ++ G', .cons ⟨v, rfl, (fun _ z => nomatch z), .s (o.mono es), fun _ z => nomatch z⟩ a (fun _ z => nomatch z), fun p hp => sub p (b p hp)⟩
  | _, _, _, _, _, _, _, @Outs.own v vs sh ks t ts us env h, h0, sl => by
    cases h0 with
    | cons h1 h2 h3 =>
      cases sl with
      | @cons _ _ _ _ F G s1 s2 s3 =>
        obtain ⟨v', e1, e2, o, nb⟩ := s1
        cases e2 v rfl
        obtain ⟨G', a, b⟩ := outs_slots es h h2 s2
        refine ⟨F ++ G', .cons (argCell_ok o nb) a fun p hp hq => s3 p hp (b p hq), fun p hp => ?_⟩
        rcases List.mem_append.mp hp with z | z
        · exact List.mem_append_left _ z
        · exact List.mem_append_right _ (b p z)
theorem outs_pure : ∀ {vs : List V} {ds : List D} {env : En}, vs.length = ds.length → Outs vs (ds.map T.s) env (ds.map T.s)
  | [], [], _, _ => .nil
  | v :: vs, d :: ds, _, h => .s (outs_pure (by simpa using h))
theorem argCells_pure : ∀ {vs : List V} {ds : List D}, vs.length = ds.length → argCells vs (ds.map T.s) = ds.map fun d => Cell.own none (.s d)
  | [], [], _ => rfl
  | v :: vs, d :: ds, h => by
    show argCell v (.s d) :: argCells vs (ds.map T.s) = _
    rw [argCells_pure (by simpa using h)]
    rfl
end
section
variable {P : Program} {w : World} {K : PySem.W.Frag} {mg : Str → Option Value} {base : Heap}
/-- THE RULE for a def -/
theorem fn_ok {x qual : Str} {st : Stmt} {f : Addr} {fd : FuncData} {N ps : List Str} {k : Nat} (s : Spc) (F : Fun K x qual st f fd) (S : FnScope N ps (defScope st)) (len : ∀ ts a, s.pre ts a → ts.length = ps.length)
    (hb : ∀ (cdv : Value) (A : Around) (outer : List Env) (s1 : Shared) (H : Hp) (E : XK), Room k (cxOf CX0 P w K mg base N qual (defScope st) f cdv A outer s1 H E).nox.A → ∃ p, PDSs (cxOf CX0 P w K mg base N qual (defScope st) f cdv A outer s1 H E).nox (defBody st) p ∧
      ∀ vs ts a, s.pre ts a → vs.length = ts.length → p { nx := fun env => ∃ outs, Outs vs ts env outs ∧ s.post a (.s .non) outs, rt := fun t env => ∃ outs, Outs vs ts env outs ∧ s.post a t outs } (startE N vs ts)) :
    FnOk P w K mg base CX0 (k + 1) f fd ps (spF K (spS s)) := by
  refine F.ok S (fun vs H Q E h => ?_) (fun cdv A outer s1 H vs Q E hr h => ?_)
  · obtain ⟨S, B, ts, sr, hl, a, pre, q⟩ := h
    rw [hl, len ts a pre]
  · obtain ⟨S, B, ts, sr, hl, a, pre, q⟩ := h
    obtain ⟨p, hp, hq⟩ := hb cdv A outer s1 H E hr
    refine ⟨_, hp.run, S, B, startE N vs ts, _, sr_start sr, hq vs ts a pre hl, ⟨fun S' B' σ' H' env' ev sr' ⟨outs, o, ps⟩ => ?_, fun _ _ _ _ _ _ _ z => z.elim, fun _ _ _ _ _ _ _ z => z.elim, fun S' B' σ' H' env' v t ev sr' ⟨outs, o, ps⟩ => ?_⟩⟩
    · obtain ⟨G0, sl0⟩ := sr.sl
      obtain ⟨G, sl⟩ := sr'.sl
      obtain ⟨G', a1, a2⟩ := outs_slots ev.s o sl0 sl
      exact q _ _ ps S' B' .non H' ev (SR.cons sr'.sb sr'.bh a1 (.s .non) (fun _ z => nomatch z) fun _ z => nomatch z)
    · obtain ⟨G0, sl0⟩ := sr.sl
      obtain ⟨G, sl⟩ := sr'.sl
      cases sl with
      | cons s1 s2 s3 =>
        obtain ⟨G', a1, a2⟩ := outs_slots ev.s o sl0 s2
        obtain ⟨v', e1, _, ot, nb⟩ := s1
        cases e1
        exact q _ _ ps S' B' v H' ev (SR.cons sr'.sb sr'.bh a1 ot nb fun p hp hq => s3 p hp (a2 p hq))
/-- .. that only reads its arguments -/
theorem fn_okP {x qual : Str} {st : Stmt} {f : Addr} {fd : FuncData} {N ps : List Str} {k : Nat} (s : SpcP) (F : Fun K x qual st f fd) (S : FnScope N ps (defScope st)) (len : ∀ ds a, s.pre ds a → ds.length = ps.length)
    (hb : ∀ (cdv : Value) (A : Around) (outer : List Env) (s1 : Shared) (H : Hp) (E : XK), Room k (cxOf CX0 P w K mg base N qual (defScope st) f cdv A outer s1 H E).nox.A → ∃ p, PDSs (cxOf CX0 P w K mg base N qual (defScope st) f cdv A outer s1 H E).nox (defBody st) p ∧
      ∀ ds a, s.pre ds a → p { nx := fun _ => s.post a (.s .non), rt := fun t _ => s.post a t } (startP N ds)) :
    FnOk P w K mg base CX0 (k + 1) f fd ps (spF K (spS s.s)) := by
  refine fn_ok s.s F S (fun ts a ⟨ds, e, pre⟩ => by rw [e, List.length_map]; exact len ds a pre) fun cdv A outer s1 H E hr => ?_
  obtain ⟨p, hp, hq⟩ := hb cdv A outer s1 H E hr
  refine ⟨p, hp, fun vs ts a ⟨ds, e, pre⟩ hl => ?_⟩
  subst e
  rw [List.length_map] at hl
  have e : startE N vs (ds.map T.s) = startP N ds := by
    unfold startE startP
    rw [argCells_pure hl, hl]
  rw [e]
  exact hp.mono (a := { nx := fun _ => s.post a (.s .non), rt := fun t _ => s.post a t }) _ ⟨fun env h => ⟨_, outs_pure hl, h⟩, fun t env h => ⟨_, outs_pure hl, h⟩, fun _ h => h, fun _ h => h⟩ (hq ds a pre)
end
end PL

/-! The pure layer, part 15: how many kinds, sorted pairs. -/
namespace PL
open PySem L2

/-! ### len(set(xs)), xs a list of ints -/
open PyProof.Rows in
theorem met_le (val : Nat → Int) (i : Nat) : (firstMet val i).length ≤ i := firstMet_length_le val i
open PyProof.Rows in
theorem met_iff (val : Nat → Int) : ∀ i : Nat, (firstMet val i).length = i ↔ ((List.range i).map val).Nodup
  | 0 => by rw [firstMet_zero]; simp
  | i + 1 => by
    rw [firstMet_succ, List.range_succ, List.map_append, List.map_singleton]
    have ih := met_iff val i
    have le := met_le val i
    unfold step_dedup
    have ha := firstMet_any val i (val i)
    by_cases c : (firstMet val i).any (· == val i) = true
    · rw [if_pos c]
      refine ⟨fun h => by omega, fun h => ?_⟩
      rw [c] at ha
      have hm := List.any_eq_true.mp ha.symm
      obtain ⟨x, hx, ex⟩ := hm
      have ex : x = val i := by simpa using ex
      subst ex
      exact absurd (List.nodup_append.mp h).2.2 (fun z => z _ hx _ (.head _) rfl)
    · rw [if_neg c, List.length_append, List.length_singleton]
      refine ⟨fun h => ?_, fun h => ?_⟩
      · have h1 := ih.mp (by omega)
        refine List.nodup_append.mpr ⟨h1, List.nodup_cons.mpr ⟨(fun z => nomatch z), List.nodup_nil⟩, fun a ha' b hb => ?_⟩
        cases List.mem_singleton.mp hb
        intro e
        subst e
        apply c
        rw [ha]
        exact List.any_eq_true.mpr ⟨_, ha', by simp⟩
      · have h1 := ih.mpr (List.nodup_append.mp h).1
        omega
theorem range_getD (ns : List Int) : (List.range ns.length).map (fun i => ns.getD i 0) = ns := by
  refine List.ext_getElem? fun i => ?_
  rw [List.getElem?_map]
  by_cases h : i < ns.length
  · rw [List.getElem?_range h, List.getElem?_eq_getElem h]
    simp [List.getD_eq_getElem?_getD, List.getElem?_eq_getElem h]
  · rw [List.getElem?_eq_none (by rw [List.length_range]; omega), List.getElem?_eq_none (by omega)]
    rfl
/-- how many kinds there are among the items -/
def gKinds : List D → (D → Prop) → Prop
  | [.node .lst ds], k => ∃ ns, intsD ds = some ns ∧ ns.length < 64 ∧ ∀ n : Nat, n ≤ ns.length → (n = ns.length ↔ ns.Nodup) → k (.int n)
  | _, _ => False
theorem mono_kinds : MonoC gKinds := fun ds P Q f h => by
  unfold gKinds at h ⊢
  split at h
  · obtain ⟨ns, a, b, h⟩ := h
    exact ⟨ns, a, b, fun n x y => f _ (h n x y)⟩
  · exact h.elim
section
variable {X : Cx}
def tKinds (K : PySem.W.Frag) (ta : TE) : TE := fun σ H Q => ta σ H fun x H1 => ∃ (l : Addr) (ns : List Int), x = V.ref l ∧ SqL K H1 l (ns.map V.int) ∧ ns.length < 64 ∧ ∀ n : Nat, n ≤ ns.length → (n = ns.length ↔ ns.Nodup) → Q (.int n) H1
open PySem.Spec PyProof.Rows in
theorem pe_kinds {a : Expr} {ta : TE} {p p2 q pos : Pos} (hc : X.calm = true) (hg : Gl X "len") (hm : X.mg "len" = none) (hg2 : Gl X "set") (hm2 : X.mg "set" = none) (ha : PE X a ta)
    (na : starEach [a] X.env = (false, eval a X.env) :: starEach [] X.env := by rfl) : PE X (.Call (.Name "len" p) [.Call (.Name "set" p2) [a] [] q] [] pos) (tKinds X.K ta) := by
  refine ⟨fun pins s σ H Q I h => Call_ (ld_blt I hg hm PySem.boot_len (PyProof.Rows.callWith_builtin1 (PyProof.Rows.args_cons ?_ rfl) rfl rfl))⟩
  refine Call_ (ld_blt I hg2 hm2 PyProof.Rows.boot_set (PyProof.Rows.callWith_type1 (PyProof.Rows.args_cons (thn (ha.run pins s σ H _ I h) fun v s1 ⟨x, H1, I1, r1, l, ns, ex, hq, h1, q1⟩ => PyProof.Rows.args_nil ?_) na) na rfl))
  subst ex
  cases r1
  obtain ⟨its, r, pl, hz⟩ := I1.list hq
  have hl : its.toArray.size = ns.length := by rw [List.size_toArray, ← r.length, List.length_map]
  refine call_set_list (I1.ok.hd hc) pl.isList (ns := ns) (by simpa using r.ints) (by unfold scanBound; omega) fun h' tk hS hk => ?_
  rw [hl] at hS
  have le := met_le (fun i => ns.getD i 0) ns.length
  have iff := met_iff (fun i => ns.getD i 0) ns.length
  rw [range_getD] at iff
  refine PyProof.Rows.args_nil ?_
  obtain ⟨o, es, ep, t, ho, hex, hd, _, _, _, hf, hn⟩ := hS
  have I2 : Inv X pins σ H1 { s1 with heap := h', toks := tk } := I1.kept fun b o e => hk b o (Heap.lt_size e) e
  exact call_len_set ho hex hd hf (by rw [hn]; omega) ⟨.int _, H1, I2.tok _, ⟨_, by rw [hn]⟩, q1 _ le iff⟩
variable {a e : Expr} {pos p p2 q : Pos} {pa : PX}
theorem d_kinds (hc : X.calm = true) (hg : Gl X "len") (hm : X.mg "len" = none) (hg2 : Gl X "set") (hm2 : X.mg "set" = none) (h : PD X a pa) (na : starEach [a] X.env = (false, eval a X.env) :: starEach [] X.env := by rfl) :
    PD X (.Call (.Name "len" p) [.Call (.Name "set" p2) [a] [] q] [] pos) (pCB gKinds (pCons pa pNil)) := by
  refine ⟨PE.weak (pe_kinds hc hg hm hg2 hm2 h.run na) fun σ H Q ⟨S, B, env, sr, z⟩ => ⟨S, B, env, sr, h.mono env (fun r z S1 B1 v H1 g1 r1 => ?_) z⟩, fun env P Q f z => h.mono env (fun r ⟨ds, e, g⟩ => ⟨ds, e, mono_kinds _ (fun d q => f _ q) g⟩) z⟩
  obtain ⟨ds, e, g⟩ := z
  have e' : (match r.tr env, some ([] : List D) with
      | some t, some ds => some (t.er :: ds)
      | _, _ => none) = some ds := e
  cases ht : r.tr env with
  | none => rw [ht] at e'; cases e'
  | some t =>
    rw [ht] at e'
    cases e'
    have rp := r1.rep (sr.gro g1) ht
    unfold gKinds at g
    split at g
    · rename_i ds' ed
      obtain ⟨ns, ei, hl, g⟩ := g
      have ed : t.er = .node .lst ds' := by
        have := ed
        injection this
      rw [ed] at rp
      cases rp with
      | @node l _ vs _ n1 n2 n3 =>
        obtain ⟨rfl, _⟩ := intsD_rep n3 ei
        exact ⟨l, ns, rfl, SqL.of n1, hl, fun n x y => g n x y S1 B1 _ H1 g1 (RR.sc (.int _))⟩
    · exact g.elim
end

/-! ### sorted, of ints, of pairs of ints -/
def pairT (p : Int × Int) : T := .s (.node .tup [.int p.1, .int p.2])
/-- of ints: ascending; of pairs: in some order -/
def gSort (t : T) (k : T → Prop) : Prop := match t.kids with
  | some (.lst, ts) => (∃ ns : List Int, ts = ns.map (fun n => T.s (.int n)) ∧ ∀ ns' : List Int, ns'.Perm ns → ns'.Pairwise (· ≤ ·) → k (.node .lst (ns'.map fun n => T.s (.int n)))) ∨
    ∃ ps : List (Int × Int), ts = ps.map pairT ∧ ∀ ps' : List (Int × Int), ps'.Perm ps → k (.node .lst (ps'.map pairT))
  | _ => False
theorem mono_sort : MonoT gSort := fun t P Q f h => by
  unfold gSort at h ⊢
  split at h
  · rcases h with ⟨ns, a, h⟩ | ⟨ps, a, h⟩
    · exact .inl ⟨ns, a, fun m x y => f _ (h m x y)⟩
    · exact .inr ⟨ps, a, fun m x => f _ (h m x)⟩
  · exact h.elim
theorem perm_map {α β : Type} (f : α → β) : ∀ {ys xs : List β} , ys.Perm xs → ∀ ps : List α, xs = ps.map f → ∃ ps' : List α, ps'.Perm ps ∧ ys = ps'.map f := by
  intro ys xs h
  induction h with
  | nil => intro ps e; exact ⟨ps, .refl _, e⟩
  | @cons x l1 l2 h ih =>
    intro ps e
    cases ps with
    | nil => cases e
    | cons a ps =>
      rw [List.map_cons] at e
      injection e with e1 e2
      obtain ⟨ps', p1, p2⟩ := ih ps e2
      exact ⟨a :: ps', p1.cons a, by rw [List.map_cons, ← p2, e1]⟩
  | swap x y l =>
    intro ps e
    cases ps with
    | nil => cases e
    | cons a ps =>
      cases ps with
      | nil => cases e
      | cons b ps =>
        rw [List.map_cons, List.map_cons] at e
        injection e with e1 e2
        injection e2 with e2 e3
        exact ⟨b :: a :: ps, .swap a b ps, by rw [List.map_cons, List.map_cons, e1, e2, e3]⟩
  | trans h1 h2 ih1 ih2 =>
    intro ps e
    obtain ⟨ps2, p1, p2⟩ := ih2 ps e
    obtain ⟨ps3, p3, p4⟩ := ih1 ps2 p2
    exact ⟨ps3, p3.trans p1, p4⟩
theorem zip_perm {α β : Type} : ∀ {ys xs : List α}, ys.Perm xs → ∀ ps : List β, xs.length = ps.length → ∃ ps' : List β, ps'.Perm ps ∧ (ys.zip ps').Perm (xs.zip ps) ∧ ys.length = ps'.length := by
  intro ys xs h
  induction h with
  | nil => intro ps e; exact ⟨ps, .refl _, .refl _, e⟩
  | @cons x l1 l2 h ih =>
    intro ps e
    cases ps with
    | nil => cases e
    | cons a ps =>
      obtain ⟨ps', p1, p2, p3⟩ := ih ps (by simpa using e)
      exact ⟨a :: ps', p1.cons a, by rw [List.zip_cons_cons, List.zip_cons_cons]; exact p2.cons _, by simp [p3]⟩
  | swap x y l =>
    intro ps e
    cases ps with
    | nil => cases e
    | cons a ps =>
      cases ps with
      | nil => simp at e
      | cons b ps => exact ⟨b :: a :: ps, .swap a b ps, .swap _ _ _, by simp at e ⊢; omega⟩
  | trans h1 h2 ih1 ih2 =>
    intro ps e
    obtain ⟨ps2, p1, p2, p3⟩ := ih2 ps e
    obtain ⟨ps3, q1, q2, q3⟩ := ih1 ps2 p3
    exact ⟨ps3, q1.trans p1, q2.trans p2, q3⟩
theorem RepL.mem {K : PySem.W.Frag} {S : Hp} : ∀ {ds : List D} {vs : List V}, RepL K S vs ds → ∀ {v : V} {d : D}, (v, d) ∈ vs.zip ds → Rep K S v d
  | [], _, h, _, _, m => by cases h; cases m
  | d :: ds, _, h, v, e, m => by
    cases h with
    | cons h1 h2 =>
      rw [List.zip_cons_cons] at m
      cases m with
      | head => exact h1
      | tail _ m => exact RepL.mem h2 m
theorem RepL.of_mem {K : PySem.W.Frag} {S : Hp} : ∀ {ds : List D} {vs : List V}, vs.length = ds.length → (∀ v d, (v, d) ∈ vs.zip ds → Rep K S v d) → RepL K S vs ds
  | [], [], _, _ => .nil
  | d :: ds, v :: vs, hl, h => .cons (h v d (by rw [List.zip_cons_cons]; exact .head _)) (RepL.of_mem (by simpa using hl) fun v' d' m => h v' d' (by rw [List.zip_cons_cons]; exact .tail _ m))
def rSortU (K : PySem.W.Frag) : List V → Hp → VK → Prop := fun xs H Q => rSortedI K xs H Q ∨ rSortedP K xs H Q
theorem ok_sort {K : PySem.W.Frag} : Ok1 K (rSortU K) gSort := fun S B H x a F Q k sb bh o nb g q => by
  unfold gSort at g
  split at g
  · rename_i ts hk
    rcases g with ⟨ns, e, g⟩ | ⟨ps, e, g⟩
    · refine .inl (ok_sortI S B H x a F Q k sb bh o nb ?_ q)
      unfold gSortI
      rw [hk]
      exact ⟨ns, e, g⟩
    · subst e
      obtain ⟨p, vs, rfl, hn, hz, ol⟩ := o.kids (sb.trans bh) hk
      have em : (ps.map pairT) = (ps.map fun p => D.node .tup [.int p.1, .int p.2]).map T.s := by rw [List.map_map]; rfl
      rw [em] at ol
      obtain ⟨rp, _⟩ := OwnL.unsh ol
      have hl := rp.len
      refine .inr ⟨p, vs, rfl, SqL.of hn, fun v hv => ?_, fun ys l hp hl' => ?_⟩
      · obtain ⟨i, hi⟩ := List.getElem?_of_mem hv
        obtain ⟨d, e1, e2⟩ := rp.getV hi
        rw [List.getElem?_map] at e1
        obtain ⟨pr, _, e3⟩ := Option.map_eq_some_iff.mp e1
        subst e3
        cases e2 with
        | @node t _ ws _ n1 n2 n3 =>
          cases n3 with
          | cons a1 a2 =>
            cases a2 with
            | cons a3 a4 =>
              cases a4
              cases a1
              cases a3
              exact ⟨t, _, _, rfl, (sb.trans bh) _ _ n1⟩
      · obtain ⟨qs, h1, h2, h3⟩ := zip_perm hp _ hl
        obtain ⟨ps', h4, rfl⟩ := perm_map _ h1 ps rfl
        have rq : RepL K S ys (ps'.map fun p => D.node .tup [.int p.1, .int p.2]) := RepL.of_mem h3 fun v d m => rp.mem (h2.mem_iff.mp m)
        have kk := g ps' h4
        have em' : (ps'.map pairT) = (ps'.map fun p => D.node .tup [.int p.1, .int p.2]).map T.s := by rw [List.map_map]; rfl
        rw [em'] at kk
        refine q _ S B _ _ _ (.new sb bh hl') (own_new (OwnL.sh rq) hl' (by rw [hp.length_eq]; exact hz)) (fun z hz => ?_) kk
        cases hz with
        | head => exact ⟨.inr hl', ex_none bh hl'⟩
        | tail _ hz => cases hz
  · exact g.elim
section
variable {X : Cx} {a : Expr} {pos p : Pos} {pa : PX}
theorem d_sort (hg : Gl X "sorted") (hm : X.mg "sorted" = none) (h : PD X a pa) (he : starEach [a] X.env = (false, eval a X.env) :: starEach [] X.env := by rfl) : PD X (.Call (.Name "sorted" p) [a] [] pos) (pC1 gSort pa) := d_callB1 (cr_sortedI.or cr_sortedP) ok_sort mono_sort hg hm (by decide +kernel) h (by decide) (by decide) he
end
end PL

/-! The pure layer, part 16: words for the proofs about pure terms. -/
namespace PL
open PySem L2
abbrev gLt : D → D → (D → Prop) → Prop := gCmp fun i j => decide (i < j)
abbrev gLe : D → D → (D → Prop) → Prop := gCmp fun i j => decide (i ≤ j)
abbrev gGt : D → D → (D → Prop) → Prop := gCmp fun i j => decide (j < i)
abbrev gGe : D → D → (D → Prop) → Prop := gCmp fun i j => decide (j ≤ i)

/-! ### set and frozen at once -/
def pAsgF (i : Nat) (p : PXM) : PSt := fun pd env => p env fun t env' => ∃ e2, setO i (.s t.er) env' = some e2 ∧ pd.nx e2
section
variable {X : Cx} {st : Stmt} {pm : PXM} {i : Nat}
theorem setO_frz {t : T} {env e2 : En} (h : setO i (.s t.er) env = some e2) : ∃ e1, setO i t env = some e1 ∧ e1[i]? = some (.own none t) ∧ e1.set i (.own none (.s t.er)) = e2 := by
  have hl : ∀ c, env[i]? = some c → i < env.length := fun c h => (List.getElem?_eq_some_iff.mp h).1
  unfold setO at h ⊢
  split at h
  · rename_i e
    cases h
    exact ⟨_, rfl, List.getElem?_set_self (hl _ e), List.set_set _⟩
  · rename_i e
    cases h
    exact ⟨_, rfl, List.getElem?_set_self (hl _ e), List.set_set _⟩
  · cases h
theorem ds_asgF (h : PDS X st (pAsg i pm)) (hm : MonoM pm) : PDS X st (pAsgF i pm) := by
  refine ⟨PS.weak h.run fun D σ H ⟨S, B, env, pd, sr, q, br⟩ => ?_, fun env le q => hm env (fun t e ⟨e2, se, q⟩ => ⟨e2, se, le.nx _ q⟩) q⟩
  refine ⟨S, B, env, { pd with nx := fun e => ∃ t, e[i]? = some (.own none t) ∧ pd.nx (e.set i (.own none (.s t.er))) }, sr, ?_, ⟨fun S' B' σ' H' env' ev sr' ⟨t, et, q⟩ => ?_, br.bk, br.ct, br.rt⟩⟩
  · exact hm env (fun t e ⟨e2, se, q⟩ => let ⟨e1, a, b, c⟩ := setO_frz se; ⟨e1, a, t, b, by rw [c]; exact q⟩) q
  · obtain ⟨S2, B2, ev2, sr2⟩ := sr'.frz et
    exact br.nx S2 B2 σ' H' _ (ev.trans ev2) sr2 q
theorem mono_lc {pi : PI'} {tgt : Tgt} {pt : PB} {pe : PX} {vs : List Nat} (h : MonoI pi) : MonoM (pLift (pLc pi tgt pt pe vs)) := fun env P Q f q =>
  pLc_mono h env (fun r ⟨t, e, q⟩ => ⟨t, e, f _ _ q⟩) q
end

section
variable {X : Cx}
theorem ds_setLcF {i : Nat} {y : Str} {py : Pos} {elt tg iter : Expr} {ifs : List Expr} {scope : Scope} {own : List (Str × Nat)} {cpos spos : Pos} {pi : PI'} {tgt : Tgt} {pt : PB} {pe : PX} (hc : X.calm = true) (hN : X.N.Nodup) (hy : X.N[i]? = some y) (hyl : X.env.scope.names.lookup y = some .local)
    (hsw : swapsWith (.ListComp elt [⟨tg, iter, ifs, 0⟩] scope cpos) (some (.Name y py)) spos.line X.env = pure true) (hi : PDI X tg iter pi) (ok : BlkOk X.N X.env.scope scope own) (hv : ∀ j ∈ tgt.ixs, j ∈ own.map (·.2))
    (hg : ∀ (s : Shared) (H : Hp) (C : Addr) (cl : List (Str × Addr)) (fp : List Addr), PDG (X.blk s H scope (compEnvC scope cl C X.env) fp) tg tgt) (ht : ∀ (s : Shared) (H : Hp) (C : Addr) (cl : List (Str × Addr)) (fp : List Addr), PDTs (X.blk s H scope (compEnvC scope cl C X.env) fp) ifs pt)
    (he : ∀ (s : Shared) (H : Hp) (C : Addr) (cl : List (Str × Addr)) (fp : List Addr), PD (X.blk s H scope (compEnvC scope cl C X.env) fp) elt pe) (hs : ∀ x, foldedSetIterable iter X.env x = pure x := by intro _; rfl) :
    PDS X (.Assign [.Name y py] (.ListComp elt [⟨tg, iter, ifs, 0⟩] scope cpos) spos) (pAsgF i (pLift (pLc pi tgt pt pe (own.map (·.2))))) :=
  ds_asgF (ds_setLc hc hN hy hyl hsw hi ok hv hg ht he hs) (mono_lc hi.mono)
end

/-! ### a result frozen -/
def pFz (p : PX) : PX := fun env k => p env fun r => ∃ t, r = .va t ∧ k (.va (.s t.er))
theorem d_fz {X : Cx} {e : Expr} {p : PX} (h : PD X e p) : PD X e (pFz p) := by
  refine ⟨PE.weak h.run fun σ H Q ⟨S, B, env, sr, q⟩ => ⟨S, B, env, sr, h.mono env (fun r ⟨t, e, q⟩ S1 B1 v H1 g r1 => ?_) q⟩, fun env P Q f q => h.mono env (fun r ⟨t, e, q⟩ => ⟨t, e, f _ q⟩) q⟩
  subst e
  obtain ⟨F, o, fr⟩ := r1
  have g2 : Gro S B H _ _ H1 := g.frz (G := F) fr
  exact q _ _ v H1 g2 (RR.sc (o.frz (ex_joinF (g.sb.trans g.bh)) fun p hp => joinF_in hp))

/-! ### cells that may be set -/
def okC : Option Cell → Bool
  | some .un => true
  | some (.own none _) => true
  | _ => false
def fc : Option D → Cell
  | none => .un
  | some d => .own none (.s d)
def ft : Option T → Cell
  | none => .un
  | some d => .own none d
@[simp] theorem okC_un : okC (some .un) = true := rfl
@[simp] theorem okC_own {t : T} : okC (some (.own none t)) = true := rfl
@[simp] theorem okC_fc {o : Option D} : okC (some (fc o)) = true := by cases o <;> rfl
@[simp] theorem okC_ft {o : Option T} : okC (some (ft o)) = true := by cases o <;> rfl
@[simp] theorem setN_eq {i : Nat} {d : D} {env : En} : setN i d env = if okC env[i]? = true then some (env.set i (.own none (.s d))) else none := by
  unfold setN okC
  split <;> simp_all
@[simp] theorem setO_eq {i : Nat} {d : T} {env : En} : setO i d env = if okC env[i]? = true then some (env.set i (.own none d)) else none := by
  unfold setO okC
  split <;> simp_all

/-! ### eliminators -/
def optK {α : Type} (o : Option α) (K : α → Prop) : Prop := ∃ t, o = some t ∧ K t
def opt2 {α β : Type} (o : Option α) (o' : Option β) (K : α → β → Prop) : Prop := ∃ a b, o = some a ∧ o' = some b ∧ K a b
def vaK (r : R) (K : T → Prop) : Prop := ∃ t, r = .va t ∧ K t
def blK (r : R) (K : Bool → Prop) : Prop := ∃ c, r = .va (.s (.bl c)) ∧ K c
def inK (r : R) (K : Int → Prop) : Prop := ∃ c, r = .va (.s (.int c)) ∧ K c
def in2 (r r' : R) (K : Int → Int → Prop) : Prop := ∃ m n, r = .va (.s (.int m)) ∧ r' = .va (.s (.int n)) ∧ K m n
def dbK (d : D) (K : Bool → Prop) : Prop := ∃ c, d = .bl c ∧ K c
def scK (t : T) (K : D → Prop) : Prop := ∃ d, t = .s d ∧ K d
def pathK (r : R) (env : En) (K : Nat → List Nat → Option V → T → T → Prop) : Prop := ∃ i π pin u u1, r = .bo i π ∧ env[i]? = some (.own pin u) ∧ u.at π = some u1 ∧ K i π pin u u1
def ownK (c : Option Cell) (K : Option V → T → Prop) : Prop := ∃ pin t, c = some (.own pin t) ∧ K pin t
def lstK (t : T) (K : List T → Prop) : Prop := ∃ ts, t = .node .lst ts ∧ K ts
@[simp] theorem optK_some {α : Type} {a : α} {K : α → Prop} : optK (some a) K = K a := propext ⟨fun ⟨t, e, h⟩ => by cases e; exact h, fun h => ⟨a, rfl, h⟩⟩
@[simp] theorem optK_none {α : Type} {K : α → Prop} : optK none K = False := propext ⟨(fun ⟨t, e, h⟩ => nomatch e), False.elim⟩
@[simp] theorem opt2_some {α β : Type} {a : α} {b : β} {K : α → β → Prop} : opt2 (some a) (some b) K = K a b := propext ⟨fun ⟨_, _, e, e', h⟩ => by cases e; cases e'; exact h, fun h => ⟨a, b, rfl, rfl, h⟩⟩
@[simp] theorem vaK_va {t : T} {K : T → Prop} : vaK (.va t) K = K t := propext ⟨fun ⟨_, e, h⟩ => by cases e; exact h, fun h => ⟨t, rfl, h⟩⟩
@[simp] theorem blK_va {c : Bool} {K : Bool → Prop} : blK (.va (.s (.bl c))) K = K c := propext ⟨fun ⟨_, e, h⟩ => by cases e; exact h, fun h => ⟨c, rfl, h⟩⟩
@[simp] theorem inK_va {c : Int} {K : Int → Prop} : inK (.va (.s (.int c))) K = K c := propext ⟨fun ⟨_, e, h⟩ => by cases e; exact h, fun h => ⟨c, rfl, h⟩⟩
@[simp] theorem in2_va {c d : Int} {K : Int → Int → Prop} : in2 (.va (.s (.int c))) (.va (.s (.int d))) K = K c d := propext ⟨fun ⟨_, _, e, e', h⟩ => by cases e; cases e'; exact h, fun h => ⟨c, d, rfl, rfl, h⟩⟩
@[simp] theorem dbK_bl {c : Bool} {K : Bool → Prop} : dbK (.bl c) K = K c := propext ⟨fun ⟨_, e, h⟩ => by cases e; exact h, fun h => ⟨c, rfl, h⟩⟩
@[simp] theorem scK_s {d : D} {K : D → Prop} : scK (.s d) K = K d := propext ⟨fun ⟨_, e, h⟩ => by cases e; exact h, fun h => ⟨d, rfl, h⟩⟩
@[simp] theorem pathK_bo {i : Nat} {π : List Nat} {env : En} {K : Nat → List Nat → Option V → T → T → Prop} : pathK (.bo i π) env K = ownK env[i]? fun pin u => optK (u.at π) fun u1 => K i π pin u u1 :=
  propext ⟨fun ⟨_, _, pin, u, u1, e, e1, e2, h⟩ => by cases e; exact ⟨pin, u, e1, u1, e2, h⟩, fun ⟨pin, u, e1, u1, e2, h⟩ => ⟨i, π, pin, u, u1, rfl, e1, e2, h⟩⟩
@[simp] theorem ownK_own {pin : Option V} {t : T} {K : Option V → T → Prop} : ownK (some (.own pin t)) K = K pin t := propext ⟨fun ⟨_, _, e, h⟩ => by cases e; exact h, fun h => ⟨pin, t, rfl, h⟩⟩
@[simp] theorem lstK_l {ts : List T} {K : List T → Prop} : lstK (.node .lst ts) K = K ts := propext ⟨fun ⟨_, e, h⟩ => by cases e; exact h, fun h => ⟨ts, rfl, h⟩⟩

/-- a call by its promise -/
def callP (s : SpcP) (ds : List D) (K : T → Prop) : Prop := ∃ a, s.pre ds a ∧ ∀ t, s.post a t → K t
theorem call_of {s : SpcP} {ds : List D} {K : T → Prop} (a : s.α) (h : s.pre ds a) (q : ∀ t, s.post a t → K t) : callP s ds K := ⟨a, h, q⟩
/-! ### loops by what they change -/
def ups : List (Nat × Cell) → En → En
  | [], e => e
  | (i, c) :: r, e => (ups r e).set i c
@[simp] theorem ups_nil {e : En} : ups [] e = e := rfl
@[simp] theorem ups_cons {i : Nat} {c : Cell} {r : List (Nat × Cell)} {e : En} : ups ((i, c) :: r) e = (ups r e).set i c := rfl
/-- at the end of a turn -/
inductive Nxt {ι : Type} (up : ι → List (Nat × Cell)) (I : Nat → ι → Prop) (k : Nat) (env e : En) : Prop where
  | mk (s : ι) (h : I k s) (q : e = ups (up s) env)
theorem nxt {ι : Type} {up : ι → List (Nat × Cell)} {I : Nat → ι → Prop} {k : Nat} {env e : En} (s : ι) (h : I k s) (q : e = ups (up s) env) : Nxt up I k env e := .mk s h q
theorem loop_rel {items : List D} {tgt : Tgt} {body : PSt} {aft : En → Prop} {rt : T → En → Prop} {env : En} {ι : Type} (up : ι → List (Nat × Cell)) (I : Nat → ι → Prop) (s0 : ι) (h0 : I 0 s0) (e0 : ups (up s0) env = env)
    (hs : ∀ k d s, items[k]? = some d → k < items.length → I k s → optK (setT tgt d (ups (up s) env)) fun e2 => body { nx := Nxt up I (k + 1) env, ct := Nxt up I (k + 1) env, bk := aft, rt := rt } e2)
    (hd : ∀ s, I items.length s → aft (ups (up s) env)) : loopD items tgt body aft rt env :=
  ⟨fun k e => Nxt up I k env e, ⟨s0, h0, e0.symm⟩, fun k d env' hk ⟨s, hi, e⟩ => by
    subst e
    exact hs k d s hk (List.getElem?_eq_some_iff.mp hk).1 hi, fun env' ⟨s, hi, e⟩ => by
    subst e
    exact hd s hi⟩

/-! ### the transformers, one by one -/
section
variable {env : En} {pd : PEnds} {k : R → Prop} {kA : List R → Prop} {kB : Bool → Prop} {kM : T → En → Prop} {kI : ItD → Prop} {p q : PX} {pa : PAs} {pb pb' : PB} {pm : PXM} {ps ps' : PSt} {pi : PI'} {i j : Nat} {d e : D} {t u : T} {kD : D → Prop} {kT : T → Prop} {ds es : List D} {ts us : List T} {m n : Int} {x y : Str} {b c : Bool} {g : D → D → (D → Prop) → Prop} {gc : List D → (D → Prop) → Prop} {gt : T → T → (T → Prop) → Prop} {g1 : T → (T → Prop) → Prop} {tgt : Tgt} {vs : List Nat}
@[simp] theorem pVar_eq : pVar i env k = (match env[i]? with
  | some (.own _ (.s d)) => k (.va (.s d))
  | some (.own _ (.node _ _)) => k (.bo i [])
  | some (.lk _ (.s d)) => k (.va (.s d))
  | some (.lk _ (.node _ _)) => k (.bo i [])
  | _ => False) := rfl
@[simp] theorem pFz_eq : pFz p env k = p env fun r => vaK r fun t => k (.va (.s t.er)) := rfl
@[simp] theorem pC_eq : pC d env k = k (.va (.s d)) := rfl
@[simp] theorem pNil_eq : pNil env kA = kA [] := rfl
@[simp] theorem pCons_eq : pCons p pa env kA = p env fun r => pa env fun rs => kA (r :: rs) := rfl
@[simp] theorem p2_eq : p2 g p q env k = p env fun ra => q env fun rb => opt2 (ra.tr env) (rb.tr env) fun a b => g a.er b.er fun d => k (.va (.s d)) := rfl
@[simp] theorem p2T_eq : p2T g p q env kB = p env fun ra => q env fun rb => opt2 (ra.tr env) (rb.tr env) fun a b => g a.er b.er fun d => dbK d kB := rfl
@[simp] theorem pOp_eq : pOp gt p q env k = p env fun ra => q env fun rb => opt2 (ra.mv env) (rb.mv env) fun a b => gt a b fun t => k (.va t) := rfl
@[simp] theorem pBl_eq : pBl p env kB = p env fun r => blK r kB := rfl
@[simp] theorem pAndT_eq : pAndT pb pb' env kB = pb env fun c => if c = true then pb' env kB else kB false := rfl
@[simp] theorem pOrT_eq : pOrT pb pb' env kB = pb env fun c => if c = true then kB true else pb' env kB := rfl
@[simp] theorem pNotT_eq : pNotT pb env kB = pb env fun c => kB (!c) := rfl
@[simp] theorem pAndV_eq : pAndV p q env k = p env fun r => blK r fun c => if c = true then q env k else k (.va (.s (.bl false))) := rfl
@[simp] theorem pOrV_eq : pOrV p q env k = p env fun r => blK r fun c => if c = true then k (.va (.s (.bl true))) else q env k := rfl
@[simp] theorem pNotV_eq : pNotV p env k = p env fun r => blK r fun c => k (.va (.s (.bl (!c)))) := rfl
@[simp] theorem pIfE_eq : pIfE pb p q env k = pb env fun c => if c = true then p env k else q env k := rfl
@[simp] theorem pNeg_eq : pNeg p env k = p env fun r => inK r fun i => k (.va (.s (.int (-i)))) := rfl
@[simp] theorem pTup_eq : pTup pa env k = pa env fun rs => optK (vaL rs) fun ts => ts.length ≤ 1000 ∧ k (.va (.s (.node .tup (ts.map T.er)))) := rfl
@[simp] theorem pLst_eq : pLst pa env k = pa env fun rs => optK (vaL rs) fun ts => ts.length ≤ 1000 ∧ k (.va (.node .lst ts)) := rfl
@[simp] theorem vaL_nil : vaL [] = some [] := rfl
@[simp] theorem vaL_va {rs : List R} : vaL (.va t :: rs) = (vaL rs).map (t :: ·) := rfl
@[simp] theorem vaL_bo {rs : List R} {π : List Nat} : vaL (.bo i π :: rs) = none := rfl
@[simp] theorem pIx_eq : pIx p q env k = p env fun ra => q env fun rb => opt2 (ra.tr env) (rb.tr env) fun t u => subT t u.er fun j c => kidR ra j c k := rfl
@[simp] theorem pPart_eq {kO : Option Int → Prop} : pPart p env kO = p env fun r => inK r fun i => kO (some i) := rfl
@[simp] theorem pNoPart_eq {kO : Option Int → Prop} : pNoPart env kO = kO none := rfl
@[simp] theorem pSl_eq {pl ph : PO'} : pSl p pl ph env k = p env fun r => pl env fun lo => ph env fun hi => optK (r.mv env) fun t => gSl t lo hi fun t => k (.va t) := rfl
@[simp] theorem pRev_eq : pRev p env k = p env fun r => optK (r.mv env) fun t => optK t.kids fun x => x.1 = .lst ∧ k (.va (.node .lst x.2.reverse)) := by
  refine congrArg (p env) (funext fun r => propext ⟨fun ⟨t, ts, e, e2, h⟩ => ⟨t, e, _, e2, rfl, h⟩, fun ⟨t, e, ⟨sh, ts⟩, e2, e3, h⟩ => ⟨t, ts, e, by rw [e2]; cases e3; rfl, h⟩⟩)
@[simp] theorem pCB_eq : pCB gc pa env k = pa env fun rs => optK (datsR env rs) fun ds => gc ds fun d => k (.va (.s d)) := rfl
@[simp] theorem pC1_eq : pC1 g1 p env k = p env fun r => optK (r.mv env) fun t => g1 t fun t => k (.va t) := rfl
@[simp] theorem pIsi_eq {T' : String} : pIsi T' p env k = p env fun r => opt2 (r.tr env) ((r.tr env).bind fun t => tyD t.er) fun t ty => k (.va (.s (.bl (isiT T' ty)))) := by
  refine congrArg (p env) (funext fun r => propext ⟨fun ⟨t, ty, e1, e2, h⟩ => ⟨t, ty, e1, by rw [e1]; exact e2, h⟩, fun ⟨t, ty, e1, e2, h⟩ => ⟨t, ty, e1, by rw [e1] at e2; exact e2, h⟩⟩)
@[simp] theorem pCall_eq {s : SpcP} : pCall (spS s.s) pa env k = pa env fun rs => optK (datsR env rs) fun ds => callP s ds fun t => (anyBo rs = true → immT t = true) ∧ k (.va t) := by
  refine congrArg (pa env) (funext fun rs => congrArg (optK (datsR env rs)) (funext fun ds => propext ⟨fun ⟨a, ⟨ds', e, h⟩, q⟩ => ⟨a, ?_, fun t ht => q t [] ht⟩, fun ⟨a, h, q⟩ => ⟨a, ⟨ds, rfl, h⟩, fun t _ ht => q t ht⟩⟩))
  have : ds = ds' := by
    have := congrArg (List.map T.er) e
    rwa [er_s_map, er_s_map] at this
  rw [this]
  exact h
@[simp] theorem anyBo_nil : anyBo [] = false := rfl
@[simp] theorem anyBo_va {rs : List R} : anyBo (.va t :: rs) = anyBo rs := rfl
@[simp] theorem anyBo_bo {rs : List R} {π : List Nat} : anyBo (.bo i π :: rs) = true := rfl
@[simp] theorem datsR_nil : datsR env [] = some [] := rfl
@[simp] theorem datsR_va {rs : List R} : datsR env (.va t :: rs) = (datsR env rs).map (t.er :: ·) := by
  show (match some t, datsR env rs with
      | some t, some ds => some (t.er :: ds)
      | _, _ => none) = _
  cases datsR env rs <;> rfl
@[simp] theorem datsR_bo {rs : List R} {π : List Nat} : datsR env (.bo i π :: rs) = (look env i π).bind fun t => (datsR env rs).map (t.er :: ·) := by
  show (match look env i π, datsR env rs with
      | some t, some ds => some (t.er :: ds)
      | _, _ => none) = _
  cases look env i π <;> cases datsR env rs <;> rfl
@[simp] theorem tr_va : R.tr env (.va t) = some t := rfl
@[simp] theorem tr_bo {π : List Nat} : R.tr env (.bo i π) = look env i π := rfl
@[simp] theorem mv_va : R.mv env (.va t) = some t := rfl
@[simp] theorem mv_bo' {π : List Nat} : R.mv env (.bo i π) = (look env i π).bind fun t => if t.flat = true then some t else none := by
  show (match look env i π with
    | some t => if t.flat = true then some t else none
    | none => none) = _
  cases look env i π <;> rfl
@[simp] theorem look_eq {π : List Nat} : look env i π = (env[i]?).bind fun c => c.tr.bind fun t => t.at π := rfl
@[simp] theorem ctr_own {pin : Option V} : Cell.tr (.own pin t) = some t := rfl
@[simp] theorem ctr_lk {F : List Addr} : Cell.tr (.lk F t) = some t := rfl
@[simp] theorem ctr_un : Cell.tr .un = none := rfl
@[simp] theorem at_nil : T.at t [] = some t := by cases t <;> rfl
@[simp] theorem at_node {sh : Shape} {π : List Nat} : T.at (.node sh ts) (j :: π) = (ts[j]?).bind fun c => c.at π := rfl
@[simp] theorem kidR_s {ra : R} : kidR ra j (.s d) k = k (.va (.s d)) := rfl
@[simp] theorem kidR_va {sh : Shape} : kidR (.va u) j (.node sh ts) k = k (.va (.node sh ts)) := rfl
@[simp] theorem kidR_bo {sh : Shape} {π : List Nat} : kidR (.bo i π) j (.node sh ts) k = k (.bo i (π ++ [j])) := rfl
@[simp] theorem flat_s : T.flat (.s d) = true := rfl
@[simp] theorem flat_node {sh : Shape} : T.flat (.node sh ts) = ts.all T.isS := rfl
@[simp] theorem isS_s : T.isS (.s d) = true := rfl
@[simp] theorem isS_node {sh : Shape} : T.isS (.node sh ts) = false := rfl
@[simp] theorem kids_s {sh : Shape} : T.kids (.s (.node sh ds)) = some (sh, ds.map T.s) := rfl
@[simp] theorem kids_node {sh : Shape} : T.kids (.node sh ts) = some (sh, ts) := rfl
@[simp] theorem kids_int : T.kids (.s (.int n)) = none := rfl
@[simp] theorem kids_str : T.kids (.s (.str x)) = none := rfl

/-! operators -/
/-- d is equal to one of them -/
def inL (d : D) (es : List D) : Bool := es.any fun e => deq e d
@[simp] theorem comp_Ts {α : Type} {f : α → D} : T.s ∘ f = fun a => T.s (f a) := rfl
@[simp] theorem comp_er {α : Type} {f : α → T} : T.er ∘ f = fun a => T.er (f a) := rfl
@[simp] theorem gSub_i : gSubI (.int m) (.int n) kD = kD (.int (m - n)) := rfl
@[simp] theorem gDiv_i : gDiv (.int m) (.int n) kD = ((0 < n ∧ n ≤ 4611686018427387904) ∧ kD (.int (m / n))) := rfl
@[simp] theorem gMod_i : gMod (.int m) (.int n) kD = (0 < n ∧ kD (.int (m % n))) := rfl
@[simp] theorem gPow_i : gPow (.int m) (.int n) kD = ((0 ≤ n ∧ n ≤ 1000 ∧ -18446744073709551616 < m ∧ m < 18446744073709551616) ∧ kD (.int (m ^ n.toNat))) := rfl
@[simp] theorem gCmp_i {f : Int → Int → Bool} : gCmp f (.int m) (.int n) kD = kD (.bl (f m n)) := rfl
@[simp] theorem gEq_i : gEq (.int m) (.int n) kD = kD (.bl (decide (m = n))) := rfl
@[simp] theorem gEq_s : gEq (.str x) (.str y) kD = kD (.bl (decide (x = y))) := rfl
@[simp] theorem gEq_b : gEq (.bl b) (.bl c) kD = kD (.bl (decide (b = c))) := rfl
@[simp] theorem gNe_i : gNe (.int m) (.int n) kD = kD (.bl (!decide (m = n))) := rfl
@[simp] theorem gNe_s : gNe (.str x) (.str y) kD = kD (.bl (!decide (x = y))) := rfl
@[simp] theorem gNe_b : gNe (.bl b) (.bl c) kD = kD (.bl (!decide (b = c))) := rfl
@[simp] theorem gEq_n {sh : Shape} : gEq (.node sh ds) e kD = ((shp 64 (.node sh ds) = true ∧ shp 64 e = true) ∧ kD (.bl (deq (.node sh ds) e))) := by cases e <;> rfl
@[simp] theorem gNe_n {sh : Shape} : gNe (.node sh ds) e kD = ((shp 64 (.node sh ds) = true ∧ shp 64 e = true) ∧ kD (.bl (!deq (.node sh ds) e))) := by cases e <;> rfl
@[simp] theorem neg_t : neg' true b = !b := rfl
@[simp] theorem neg_f : neg' false b = b := rfl
@[simp] theorem gIn_l {neg : Bool} : gIn neg d (.node .lst es) kD = ((shp 64 d = true ∧ shpL 63 es = true) ∧ kD (.bl (neg' neg (inL d es)))) := by cases d <;> rfl
@[simp] theorem gIn_t {neg : Bool} : gIn neg d (.node .tup es) kD = ((shp 64 d = true ∧ shpL 63 es = true) ∧ kD (.bl (neg' neg (inL d es)))) := by cases d <;> rfl
@[simp] theorem gIn_dK {neg : Bool} {ks : List Key} : gIn neg d (.node (.dK ks) es) kD = optK d.key fun key => kD (.bl (neg' neg (memK ks key))) := by cases d <;> rfl
@[simp] theorem gIn_dT {neg : Bool} {ks : List (List Key)} : gIn neg d (.node (.dT ks) es) kD = optK d.keyT fun key => kD (.bl (neg' neg (memK ks key))) := by cases d <;> rfl
@[simp] theorem gIs_non {neg : Bool} : gIs neg .non .non kD = kD (.bl (neg' neg true)) := rfl
@[simp] theorem gIs_int {neg : Bool} : gIs neg (.int n) .non kD = kD (.bl (neg' neg false)) := rfl
@[simp] theorem gIs_bl {neg : Bool} : gIs neg (.bl b) .non kD = kD (.bl (neg' neg false)) := rfl
@[simp] theorem gIs_str {neg : Bool} : gIs neg (.str x) .non kD = kD (.bl (neg' neg false)) := rfl
@[simp] theorem gIs_node {neg : Bool} {sh : Shape} : gIs neg (.node sh ds) .non kD = kD (.bl (neg' neg false)) := rfl
@[simp] theorem gAdd_i : gAdd (.s (.int m)) (.s (.int n)) kT = kT (.s (.int (m + n))) := rfl
@[simp] theorem gAdd_s : gAdd (.s (.str x)) (.s (.str y)) kT = (x.length + y.length ≤ sizeLine ∧ kT (.s (.str (x ++ y)))) := rfl
@[simp] theorem gAdd_nn {sh : Shape} : gAdd (.node sh ts) u kT = gAddK (some (sh, ts)) u.kids kT := by cases u <;> rfl
@[simp] theorem gAdd_sn {sh : Shape} : gAdd (.s (.node sh ds)) u kT = gAddK (some (sh, ds.map T.s)) u.kids kT := rfl
@[simp] theorem gAddK_l : gAddK (some (.lst, ts)) (some (.lst, us)) kT = (ts.length + us.length ≤ sizeLine ∧ kT (.node .lst (ts ++ us))) := rfl
@[simp] theorem gAddK_t : gAddK (some (.tup, ts)) (some (.tup, us)) kT = (ts.length + us.length ≤ sizeLine ∧ kT (.s (.node .tup (ts.map T.er ++ us.map T.er)))) := rfl
@[simp] theorem gMul_i : gMul (.s (.int m)) (.s (.int n)) kT = (((-18446744073709551616 < m ∧ m < 18446744073709551616) ∨ (-18446744073709551616 < n ∧ n < 18446744073709551616)) ∧ kT (.s (.int (m * n)))) := rfl
@[simp] theorem gMul_nn {sh : Shape} : gMul (.node sh ts) (.s (.int n)) kT = gMulK (some (sh, ts)) n kT := rfl
@[simp] theorem gMul_sn {sh : Shape} : gMul (.s (.node sh ds)) (.s (.int n)) kT = gMulK (some (sh, ds.map T.s)) n kT := rfl
@[simp] theorem gMulK_l : gMulK (some (.lst, ts)) n kT = ((ts.all T.isS = true ∧ -9223372036854775808 ≤ n ∧ n < 9223372036854775808 ∧ ts.length * n.toNat ≤ sizeLine) ∧ kT (.node .lst (List.replicate n.toNat ts).flatten)) := rfl
@[simp] theorem gSl_l {lo hi : Option Int} : gSl (.s (.node .lst ds)) lo hi kT = kT (.node .lst (cutL (ds.map T.s) lo hi)) := rfl
@[simp] theorem gSl_t {lo hi : Option Int} : gSl (.s (.node .tup ds)) lo hi kT = kT (.s (.node .tup ((cutL (ds.map T.s) lo hi).map T.er))) := rfl
@[simp] theorem gSl_nl {lo hi : Option Int} : gSl (.node .lst ts) lo hi kT = kT (.node .lst (cutL ts lo hi)) := rfl
@[simp] theorem gLen_l : gLen [.node .lst ds] kD = kD (.int ds.length) := rfl
@[simp] theorem gLen_t : gLen [.node .tup ds] kD = kD (.int ds.length) := rfl
@[simp] theorem gLen_r : gLen [.node .ro ds] kD = kD (.int ds.length) := rfl
@[simp] theorem gLen_dK {ks : List Key} : gLen [.node (.dK ks) ds] kD = kD (.int ks.length) := rfl
@[simp] theorem gLen_dT {ks : List (List Key)} : gLen [.node (.dT ks) ds] kD = kD (.int ks.length) := rfl
@[simp] theorem gInt_i : gInt [.int n] kD = kD (.int n) := rfl
@[simp] theorem gInt_b : gInt [.bl b] kD = kD (.int (if b = true then 1 else 0)) := rfl
@[simp] theorem gAbs_i : gAbs [.int n] kD = kD (.int (if n < 0 then -n else n)) := rfl
@[simp] theorem gSum_l : gSum [.node .lst ds] kD = optK (intsD ds) fun ns => kD (.int ns.sum) := rfl
@[simp] theorem gMin_2 : gMin [.int m, .int n] kD = kD (.int (if n < m then n else m)) := rfl
@[simp] theorem gMin_l : gMin [.node .lst ds] kD = optK (intsD ds) fun ns => 0 < ns.length ∧ ∀ m, m ∈ ns → (∀ y ∈ ns, m ≤ y) → kD (.int m) := rfl
@[simp] theorem gMax_2 : gMax [.int m, .int n] kD = kD (.int (if n > m then n else m)) := rfl
@[simp] theorem gMax_l : gMax [.node .lst ds] kD = optK (intsD ds) fun ns => 0 < ns.length ∧ ∀ m, m ∈ ns → (∀ y ∈ ns, y ≤ m) → kD (.int m) := rfl
@[simp] theorem gKinds_l : gKinds [.node .lst ds] kD = optK (intsD ds) fun ns => ns.length < 64 ∧ ∀ n : Nat, n ≤ ns.length → (n = ns.length ↔ ns.Nodup) → kD (.int n) := rfl
@[simp] theorem gList_l : gList (.s (.node .lst ds)) kT = kT (.node .lst (ds.map T.s)) := rfl
@[simp] theorem gList_t : gList (.s (.node .tup ds)) kT = kT (.node .lst (ds.map T.s)) := rfl
@[simp] theorem gList_r : gList (.s (.node .ro ds)) kT = kT (.node .lst (ds.map T.s)) := rfl
@[simp] theorem gList_n : gList (.node .lst ts) kT = kT (.node .lst ts) := rfl
@[simp] theorem gTuple_l : gTuple (.s (.node .lst ds)) kT = kT (.s (.node .tup ((ds.map T.s).map T.er))) := rfl
@[simp] theorem gTuple_t : gTuple (.s (.node .tup ds)) kT = kT (.s (.node .tup ((ds.map T.s).map T.er))) := rfl
@[simp] theorem gTuple_n : gTuple (.node .lst ts) kT = kT (.s (.node .tup (ts.map T.er))) := rfl
@[simp] theorem ers_s : (ds.map T.s).map T.er = ds := er_s_map ds
@[simp] theorem intsD_ints {ns : List Int} : intsD (ns.map D.int) = some ns := intsD_map ns

/-! statements -/
@[simp] theorem pLift_eq : pLift p env kM = p env fun r => vaK r fun t => kM t env := rfl
@[simp] theorem pMove_eq : pMove i env kM = (match env[i]? with
  | some (.own none t) => kM t (env.set i .un)
  | _ => False) := rfl
@[simp] theorem pNext_eq : pNext pd env = pd.nx env := rfl
@[simp] theorem pSeq_eq : pSeq ps ps' pd env = ps { pd with nx := ps' pd } env := rfl
@[simp] theorem pBreak_eq : pBreak pd env = pd.bk env := rfl
@[simp] theorem pCont_eq : pCont pd env = pd.ct env := rfl
@[simp] theorem pDrop_eq : pDrop pm pd env = pm env fun _ env' => pd.nx env' := rfl
@[simp] theorem pRet_eq : pRet pm pd env = pm env fun t env' => pd.rt t env' := rfl
@[simp] theorem pRetN_eq : pRetN pd env = pd.rt (.s .non) env := rfl
@[simp] theorem pIf_eq : pIf pb ps ps' pd env = pb env fun b => if b = true then ps pd env else ps' pd env := rfl
@[simp] theorem pAsg_eq : pAsg i pm pd env = pm env fun t env' => optK (setO i t env') pd.nx := rfl
@[simp] theorem pAsgF_eq : pAsgF i pm pd env = pm env fun t env' => optK (setO i (.s t.er) env') pd.nx := rfl
@[simp] theorem pAsgT_eq : pAsgT tgt pm pd env = pm env fun t env' => scK t fun d => optK (setT tgt d env') pd.nx := by
  refine congrArg (pm env) (funext fun t => funext fun e => propext ⟨fun ⟨d, e2, a, b, c⟩ => ⟨d, a, e2, b, c⟩, fun ⟨d, a, e2, b, c⟩ => ⟨d, e2, a, b, c⟩⟩)
@[simp] theorem pFrz_eq : pFrz i ps pd env = (match env[i]? with
  | some (.own none t) => ps pd (env.set i (.own none (.s t.er)))
  | _ => False) := rfl
@[simp] theorem pFor_eq : pFor pi tgt ps pd env = pi env fun it => forD it tgt ps pd env := rfl
@[simp] theorem forD_none {items : List D} {src : Bool} : forD ⟨items, none, src⟩ tgt ps pd env = loopD items tgt ps pd.nx pd.rt env := rfl
@[simp] theorem pRng1_eq : pRng1 p env kI = p env fun r => inK r fun n => (-4611686018427387904 ≤ n ∧ n < 4611686018427387904) ∧ kI ⟨rngL 0 n.toNat, none, false⟩ := rfl
@[simp] theorem pRng2_eq : pRng2 p q env kI = p env fun r => q env fun r' => in2 r r' fun m n => (-4611686018427387904 ≤ m ∧ m < 4611686018427387904 ∧ -4611686018427387904 ≤ n ∧ n < 4611686018427387904) ∧ kI ⟨rngL m (n - m).toNat, none, false⟩ := rfl
@[simp] theorem pSeqI_eq : pSeqI p env kI = p env fun r => optK (r.tr env) fun t => seqI r t kI := rfl
@[simp] theorem seqI_l : seqI (.va u) (.s (.node .lst ds)) kI = kI ⟨ds, none, true⟩ := rfl
@[simp] theorem seqI_t : seqI (.va u) (.s (.node .tup ds)) kI = kI ⟨ds, none, true⟩ := rfl
@[simp] theorem seqI_r : seqI (.va u) (.s (.node .ro ds)) kI = kI ⟨ds, none, true⟩ := rfl
@[simp] theorem seqI_n : seqI (.va u) (.node .lst ts) kI = kI ⟨ts.map T.er, none, true⟩ := rfl
@[simp] theorem seqI_b {π : List Nat} : seqI (.bo i π) (.node .lst ts) kI = (ts.all T.isS = true ∧ kI ⟨ts.map T.er, some i, true⟩) := rfl
@[simp] theorem setT_nm : setT (.nm i) d env = setN i d env := rfl
@[simp] theorem setT_tt {tgs : List Tgt} : setT (.tup tgs) (.node .tup ds) env = setTs tgs ds env := rfl
@[simp] theorem setT_tl {tgs : List Tgt} : setT (.tup tgs) (.node .lst ds) env = setTs tgs ds env := rfl
@[simp] theorem setTs_nil : setTs [] [] env = some env := rfl
@[simp] theorem setTs_cons {tgs : List Tgt} : setTs (tgt :: tgs) (d :: ds) env = (setT tgt d env).bind fun e => setTs tgs ds e := by
  show (match setT tgt d env with
    | some env1 => setTs tgs ds env1
    | none => none) = _
  cases setT tgt d env <;> rfl
@[simp] theorem pApp_eq : pApp p q pd env = p env fun ro => pathK ro env fun i π pin u u1 => lstK u1 fun ts => ts.length < 16777216 ∧ q env fun re => vaK re fun t => pd.nx (env.set i (.own pin (u.putAt π (.node .lst (ts ++ [t]))))) := by
  refine congrArg (p env) (funext fun r => propext ⟨fun ⟨i, π, pin, u, ts, e1, e2, e3, h⟩ => ⟨i, π, pin, u, _, e1, e2, e3, ts, rfl, h⟩, fun ⟨i, π, pin, u, u1, e1, e2, e3, ts, e4, h⟩ => ⟨i, π, pin, u, ts, e1, e2, by rw [e3, e4], h⟩⟩)
@[simp] theorem pAppM_eq : pAppM i pm pd env = ((ownK env[i]? fun pin t => lstK t fun u => True) ∧ pm env fun t env' => ownK env'[i]? fun pin u => lstK u fun ts => ts.length < 16777216 ∧ pd.nx (env'.set i (.own pin (.node .lst (ts ++ [t]))))) := by
  have h1 : (∃ pin u, env[i]? = some (.own pin (.node .lst u))) = (ownK env[i]? fun pin t => lstK t fun u => True) := propext ⟨fun ⟨pin, u, e⟩ => ⟨pin, _, e, u, rfl, trivial⟩, fun ⟨pin, t, e, u, e2, _⟩ => ⟨pin, u, by rw [e, e2]⟩⟩
  have h2 : ∀ (t : T) (env' : En), (∃ pin ts, env'[i]? = some (.own pin (.node .lst ts)) ∧ ts.length < 16777216 ∧ pd.nx (env'.set i (.own pin (.node .lst (ts ++ [t]))))) = (ownK env'[i]? fun pin u => lstK u fun ts => ts.length < 16777216 ∧ pd.nx (env'.set i (.own pin (.node .lst (ts ++ [t]))))) := fun t env' =>
    propext ⟨fun ⟨pin, ts, e, h⟩ => ⟨pin, _, e, ts, rfl, h⟩, fun ⟨pin, u, e, ts, e2, h⟩ => ⟨pin, ts, by rw [e, e2], h⟩⟩
  show ((∃ pin u, env[i]? = some (.own pin (.node .lst u))) ∧ pm env fun t env' => ∃ pin ts, env'[i]? = some (.own pin (.node .lst ts)) ∧ ts.length < 16777216 ∧ pd.nx (env'.set i (.own pin (.node .lst (ts ++ [t]))))) = _
  simp only [h1, h2]
@[simp] theorem pSetI_eq : pSetI pm p q pd env = pm env fun t env' => p env' fun ro => q env' fun ri => optK (ri.tr env') fun td => pathK ro env' fun i π pin u u1 => setSub u1 td.er t fun u2 => pd.nx (env'.set i (.own pin (u.putAt π u2))) := by
  refine congrArg (pm env) (funext fun t => funext fun e => congrArg (p e) (funext fun ro => congrArg (q e) (funext fun ri => propext ⟨fun ⟨i, π, pin, u, u1, td, e1, e2, e3, e4, h⟩ => ⟨td, e4, i, π, pin, u, u1, e1, e2, e3, h⟩, fun ⟨td, e4, i, π, pin, u, u1, e1, e2, e3, h⟩ => ⟨i, π, pin, u, u1, td, e1, e2, e3, e4, h⟩⟩)))
@[simp] theorem putAt_nil : T.putAt t [] u = u := by cases t <;> rfl
@[simp] theorem putAt_node {sh : Shape} {π : List Nat} : T.putAt (.node sh ts) (j :: π) u = .node sh (match ts[j]? with
    | some t => ts.set j (t.putAt π u)
    | none => ts) := rfl
@[simp] theorem setSub_l : setSub (.node .lst ts) (.int n) t kT = optK (ixN ts.length n) fun j => kT (.node .lst (ts.set j t)) :=
  propext ⟨fun ⟨m, j, e, h⟩ => by cases e; exact ⟨j, h⟩, fun ⟨j, h⟩ => ⟨n, j, rfl, h⟩⟩
@[simp] theorem wipeE_nil : wipeE env [] = env := rfl
@[simp] theorem wipeE_cons : wipeE env (i :: vs) = (wipeE env vs).set i .un := rfl
@[simp] theorem pYes_eq : pYes env kB = kB true := rfl
@[simp] theorem lcTurn_eq {yes : T → Prop} {no : Prop} : lcTurn tgt pb p env d yes no = optK (setT tgt d env) fun env2 => pb env2 fun b => if b = true then p env2 fun r => vaK r yes else no := rfl
@[simp] theorem rngL_length {lo : Int} {n : Nat} : (rngL lo n).length = n := rngL_len lo n
theorem rngL_some {lo : Int} {n k : Nat} {d : D} (h : (rngL lo n)[k]? = some d) : d = .int (lo + k) ∧ k < n := by
  have hk : k < n := by
    have := (List.getElem?_eq_some_iff.mp h).1
    rwa [rngL_len] at this
  rw [rngL_get lo n k hk] at h
  cases h
  exact ⟨rfl, hk⟩

/-! items -/
/-- the item at a place -/
def ixD (ds : List D) (n : Int) (P : Nat → D → Prop) : Prop := ∃ j c, ixN ds.length n = some j ∧ ds[j]? = some c ∧ P j c
def ixT (ts : List T) (n : Int) (P : Nat → T → Prop) : Prop := ∃ j c, ixN ts.length n = some j ∧ ts[j]? = some c ∧ P j c
theorem sub_map {kN : Nat → T → Prop} : (∃ i j c, D.int n = .int i ∧ ixN (ds.map T.s).length i = some j ∧ (ds.map T.s)[j]? = some c ∧ kN j c) = ixD ds n fun j c => kN j (.s c) := by
  refine propext ⟨fun ⟨i, j, c, e1, e2, e3, h⟩ => ?_, fun ⟨j, c, e2, e3, h⟩ => ⟨n, j, .s c, rfl, by rw [List.length_map]; exact e2, by rw [List.getElem?_map, e3]; rfl, h⟩⟩
  cases e1
  rw [List.getElem?_map] at e3
  obtain ⟨c', h1, rfl⟩ := Option.map_eq_some_iff.mp e3
  exact ⟨j, c', by rw [List.length_map] at e2; exact e2, h1, h⟩
@[simp] theorem subT_l {kN : Nat → T → Prop} : subT (.s (.node .lst ds)) (.int n) kN = ixD ds n fun j c => kN j (.s c) := sub_map
@[simp] theorem subT_t {kN : Nat → T → Prop} : subT (.s (.node .tup ds)) (.int n) kN = ixD ds n fun j c => kN j (.s c) := sub_map
@[simp] theorem subT_r {kN : Nat → T → Prop} : subT (.s (.node .ro ds)) (.int n) kN = ixD ds n fun j c => kN j (.s c) := sub_map
@[simp] theorem subT_n {kN : Nat → T → Prop} : subT (.node .lst ts) (.int n) kN = ixT ts n kN := by
  show (∃ i j c, D.int n = .int i ∧ ixN ts.length i = some j ∧ ts[j]? = some c ∧ kN j c) = _
  refine propext ⟨fun ⟨i, j, c, e1, h⟩ => ?_, fun ⟨j, c, h⟩ => ⟨n, j, c, rfl, h⟩⟩
  cases e1
  exact ⟨j, c, h⟩
theorem ixN_nat {l : Nat} {n : Int} (h0 : 0 ≤ n) (h1 : n < l) : ixN l n = some n.toNat := by
  unfold ixN
  rw [if_pos h0, if_pos h1]
theorem ixN_neg {l : Nat} {n : Int} (h0 : n < 0) (h1 : -(l : Int) ≤ n) : ixN l n = some (n + l).toNat := by
  unfold ixN
  rw [if_neg (by omega), if_pos h1]
/-- the n-th of whole numbers -/
def gi (ns : List Int) (n : Nat) : Int := ns.getD n 0
theorem gi_eq {ns : List Int} {n : Nat} (h : n < ns.length) : gi ns n = ns[n] := by
  unfold gi
  rw [List.getD_eq_getElem?_getD, List.getElem?_eq_getElem h]
  rfl
theorem gi_left {ns ms : List Int} {n : Nat} (h : n < ns.length) : gi (ns ++ ms) n = gi ns n := by
  rw [gi_eq h, gi_eq (by rw [List.length_append]; omega), List.getElem_append_left h]
theorem gi_right {ns ms : List Int} {n : Nat} (h : ns.length ≤ n) : gi (ns ++ ms) n = gi ms (n - ns.length) := by
  unfold gi
  rw [List.getD_eq_getElem?_getD, List.getElem?_append_right h, List.getD_eq_getElem?_getD]
theorem gi_mem {ns : List Int} {n : Nat} (h : n < ns.length) : gi ns n ∈ ns := by
  rw [gi_eq h]
  exact List.getElem_mem h
/-- digits: each below its size -/
def Dig (rs ss : List Int) : Prop := rs.length = ss.length ∧ ∀ i, i < ss.length → 0 ≤ gi rs i ∧ gi rs i < gi ss i
theorem Dig.nil : Dig [] [] := ⟨rfl, fun i h => by simp at h⟩
theorem Dig.snoc {rs ss : List Int} {r s : Int} (h : Dig rs ss) (h0 : 0 ≤ r) (h1 : r < s) : Dig (rs ++ [r]) (ss ++ [s]) := by
  obtain ⟨l, h⟩ := h
  refine ⟨by simp [l], fun i hi => ?_⟩
  rw [List.length_append, List.length_singleton] at hi
  by_cases c : i < ss.length
  · rw [gi_left (by omega), gi_left c]
    exact h i c
  · have e : i = ss.length := by omega
    subst e
    rw [gi_right (by omega), gi_right (by omega), l, Nat.sub_self]
    exact ⟨h0, h1⟩
theorem take_snoc {α : Type} {xs : List α} {k : Nat} (h : k < xs.length) : xs.take (k + 1) = xs.take k ++ [xs[k]] := by
  rw [List.take_succ, List.getElem?_eq_getElem h]
  rfl
@[simp] theorem fc_some {d : D} : fc (some d) = .own none (.s d) := rfl
@[simp] theorem fc_none : fc none = .un := rfl
@[simp] theorem ft_some {d : T} : ft (some d) = .own none d := rfl
@[simp] theorem ft_none : ft none = .un := rfl
/-- an item by its place -/
theorem ixD_at {P : Nat → D → Prop} (h0 : 0 ≤ n) (h1 : n < (ds.length : Int)) (q : ∀ (h : n.toNat < ds.length), P n.toNat ds[n.toNat]) : ixD ds n P :=
  have h : n.toNat < ds.length := by omega
  ⟨_, _, ixN_nat h0 h1, List.getElem?_eq_getElem h, q h⟩
theorem ixT_at {P : Nat → T → Prop} (h0 : 0 ≤ n) (h1 : n < (ts.length : Int)) (q : ∀ (h : n.toNat < ts.length), P n.toNat ts[n.toNat]) : ixT ts n P :=
  have h : n.toNat < ts.length := by omega
  ⟨_, _, ixN_nat h0 h1, List.getElem?_eq_getElem h, q h⟩
theorem ixD_int {ns : List Int} {P : Nat → D → Prop} (h0 : 0 ≤ n) (h1 : n < (ns.length : Int)) (q : P n.toNat (.int (gi ns n.toNat))) : ixD (ns.map D.int) n P := by
  have h : n.toNat < ns.length := by omega
  refine ⟨_, _, ixN_nat h0 (by rw [List.length_map]; exact h1), ?_, q⟩
  rw [List.getElem?_map, List.getElem?_eq_getElem h, gi_eq h]
  rfl
theorem ixT_int {ns : List Int} {P : Nat → T → Prop} (h0 : 0 ≤ n) (h1 : n < (ns.length : Int)) (q : P n.toNat (.s (.int (gi ns n.toNat)))) : ixT (ns.map fun n => T.s (.int n)) n P := by
  have h : n.toNat < ns.length := by omega
  refine ⟨_, _, ixN_nat h0 (by rw [List.length_map]; exact h1), ?_, q⟩
  rw [List.getElem?_map, List.getElem?_eq_getElem h, gi_eq h]
  rfl
/-- of a list that is a map -/
theorem ixD_map {α : Type} {f : α → D} {xs : List α} {P : Nat → D → Prop} (h0 : 0 ≤ n) (h1 : n < (xs.length : Int)) (q : ∀ (h : n.toNat < xs.length), P n.toNat (f xs[n.toNat])) : ixD (xs.map f) n P := by
  have h : n.toNat < xs.length := by omega
  refine ⟨_, _, ixN_nat h0 (by rw [List.length_map]; exact h1), ?_, q h⟩
  rw [List.getElem?_map, List.getElem?_eq_getElem h]
  rfl
theorem ixT_map {α : Type} {f : α → T} {xs : List α} {P : Nat → T → Prop} (h0 : 0 ≤ n) (h1 : n < (xs.length : Int)) (q : ∀ (h : n.toNat < xs.length), P n.toNat (f xs[n.toNat])) : ixT (xs.map f) n P := by
  have h : n.toNat < xs.length := by omega
  refine ⟨_, _, ixN_nat h0 (by rw [List.length_map]; exact h1), ?_, q h⟩
  rw [List.getElem?_map, List.getElem?_eq_getElem h]
  rfl
theorem map_some {α : Type} {f : α → D} {xs : List α} {k : Nat} {d : D} (h : (xs.map f)[k]? = some d) : ∃ (hk : k < xs.length), d = f xs[k] := by
  rw [List.getElem?_map] at h
  obtain ⟨c, h1, rfl⟩ := Option.map_eq_some_iff.mp h
  obtain ⟨h2, h3⟩ := List.getElem?_eq_some_iff.mp h1
  exact ⟨h2, by rw [h3]⟩
end

/-! ### lists or tuples -/
def sqS (b : Bool) : Shape := if b = true then .tup else .lst
section
variable {b : Bool} {ds : List D} {kD : D → Prop} {kT : T → Prop} {n : Int} {t u : T} {neg : Bool} {d : D} {kI : ItD → Prop} {env : En}
theorem sqS_t : sqS true = .tup := rfl
theorem sqS_f : sqS false = .lst := rfl
@[simp] theorem gLen_q : gLen [.node (sqS b) ds] kD = kD (.int ds.length) := by cases b <;> rfl
@[simp] theorem subT_q {kN : Nat → T → Prop} : subT (.s (.node (sqS b) ds)) (.int n) kN = ixD ds n fun j c => kN j (.s c) := by cases b <;> exact sub_map
@[simp] theorem seqI_q : seqI (.va u) (.s (.node (sqS b) ds)) kI = kI ⟨ds, none, true⟩ := by cases b <;> rfl
@[simp] theorem gIn_q {es : List D} : gIn neg d (.node (sqS b) es) kD = ((shp 64 d = true ∧ shpL 63 es = true) ∧ kD (.bl (neg' neg (inL d es)))) := by cases b <;> cases d <;> rfl
@[simp] theorem gList_q : gList (.s (.node (sqS b) ds)) kT = kT (.node .lst (ds.map T.s)) := by cases b <;> rfl
@[simp] theorem gTuple_q : gTuple (.s (.node (sqS b) ds)) kT = kT (.s (.node .tup ((ds.map T.s).map T.er))) := by cases b <;> rfl
@[simp] theorem setT_q {tgs : List Tgt} : setT (.tup tgs) (.node (sqS b) ds) env = setTs tgs ds env := by cases b <;> rfl
@[simp] theorem deq_int {m n : Int} : deq (.int m) (.int n) = decide (m = n) := by
  show PyData.eqv (.int m) (.int n) = _
  simp only [PyData.eqv]
  by_cases h : m = n
  · rw [decide_eq_true h, h]
    exact beq_self_eq_true _
  · rw [decide_eq_false h]
    exact beq_eq_false_iff_ne.mpr h
@[simp] theorem shp_int {k : Nat} : shp k (.int n) = true := by cases k <;> rfl
@[simp] theorem shp_non {k : Nat} : shp k .non = true := by cases k <;> rfl
@[simp] theorem shp_bl {k : Nat} {c : Bool} : shp k (.bl c) = true := by cases k <;> rfl
@[simp] theorem shpL_nil {k : Nat} : shpL k [] = true := by cases k <;> rfl
@[simp] theorem shpL_cons {k : Nat} : shpL k (d :: ds) = (shp k d && shpL k ds) := by cases k <;> rfl
@[simp] theorem shp_lst {k : Nat} : shp (k + 1) (.node .lst ds) = shpL k ds := rfl
@[simp] theorem shp_tup {k : Nat} : shp (k + 1) (.node .tup ds) = shpL k ds := rfl
@[simp] theorem shp_q {k : Nat} : shp (k + 1) (.node (sqS b) ds) = shpL k ds := by cases b <;> rfl
theorem shpL_map {α : Type} {f : α → D} {k : Nat} (h : ∀ a, shp k (f a) = true) : ∀ xs : List α, shpL k (xs.map f) = true
  | [] => by simp
  | x :: xs => by rw [List.map_cons, shpL_cons, h x, shpL_map h xs]; rfl
@[simp] theorem shpL_ints {k : Nat} {ns : List Int} : shpL k (ns.map D.int) = true := shpL_map (fun _ => shp_int) ns
@[simp] theorem any_ints {ns : List Int} : inL (.int n) (ns.map D.int) = decide (n ∈ ns) := by
  unfold inL
  rw [List.any_map]
  by_cases h : n ∈ ns
  · rw [decide_eq_true h, List.any_eq_true]
    exact ⟨n, h, by simp⟩
  · rw [decide_eq_false h, List.any_eq_false]
    intro x hx
    simp
    exact fun e => h (e ▸ hx)
end
/-- the n-th of lists -/
def ge {α : Type} (xs : List (List α)) (n : Nat) : List α := xs.getD n []
theorem ge_eq {α : Type} {xs : List (List α)} {n : Nat} (h : n < xs.length) : ge xs n = xs[n] := by
  unfold ge
  rw [List.getD_eq_getElem?_getD, List.getElem?_eq_getElem h]
  rfl
theorem ixD_lst {α : Type} {f : List α → D} {xs : List (List α)} {n : Int} {P : Nat → D → Prop} (h0 : 0 ≤ n) (h1 : n < (xs.length : Int)) (q : P n.toNat (f (ge xs n.toNat))) : ixD (xs.map f) n P :=
  ixD_map h0 h1 fun h => by rw [ge_eq h] at q; exact q

theorem ixD_lit {ds : List D} {n : Int} {c : D} {P : Nat → D → Prop} (h : 0 ≤ n ∧ n < (ds.length : Int)) (e : ds[n.toNat]? = some c) : ixD ds n P = P n.toNat c :=
  propext ⟨fun ⟨j, c', e1, e2, q⟩ => by rw [ixN_nat h.1 h.2] at e1; cases e1; rw [e] at e2; cases e2; exact q, fun q => ⟨_, _, ixN_nat h.1 h.2, e, q⟩⟩
theorem ixT_lit {ds : List T} {n : Int} {c : T} {P : Nat → T → Prop} (h : 0 ≤ n ∧ n < (ds.length : Int)) (e : ds[n.toNat]? = some c) : ixT ds n P = P n.toNat c :=
  propext ⟨fun ⟨j, c', e1, e2, q⟩ => by rw [ixN_nat h.1 h.2] at e1; cases e1; rw [e] at e2; cases e2; exact q, fun q => ⟨_, _, ixN_nat h.1 h.2, e, q⟩⟩
@[simp] theorem ixD_lit0 {x0 : D} {l : List D} {P : Nat → D → Prop} : ixD (x0 :: l) 0 P = P 0 x0 := ixD_lit (by simp <;> omega) rfl
@[simp] theorem ixT_lit0 {x0 : T} {l : List T} {P : Nat → T → Prop} : ixT (x0 :: l) 0 P = P 0 x0 := ixT_lit (by simp <;> omega) rfl
@[simp] theorem ixD_lit1 {x0 x1 : D} {l : List D} {P : Nat → D → Prop} : ixD (x0 :: x1 :: l) 1 P = P 1 x1 := ixD_lit (by simp <;> omega) rfl
@[simp] theorem ixT_lit1 {x0 x1 : T} {l : List T} {P : Nat → T → Prop} : ixT (x0 :: x1 :: l) 1 P = P 1 x1 := ixT_lit (by simp <;> omega) rfl
@[simp] theorem ixD_lit2 {x0 x1 x2 : D} {l : List D} {P : Nat → D → Prop} : ixD (x0 :: x1 :: x2 :: l) 2 P = P 2 x2 := ixD_lit (by simp <;> omega) rfl
@[simp] theorem ixT_lit2 {x0 x1 x2 : T} {l : List T} {P : Nat → T → Prop} : ixT (x0 :: x1 :: x2 :: l) 2 P = P 2 x2 := ixT_lit (by simp <;> omega) rfl
@[simp] theorem ixD_lit3 {x0 x1 x2 x3 : D} {l : List D} {P : Nat → D → Prop} : ixD (x0 :: x1 :: x2 :: x3 :: l) 3 P = P 3 x3 := ixD_lit (by simp <;> omega) rfl
@[simp] theorem ixT_lit3 {x0 x1 x2 x3 : T} {l : List T} {P : Nat → T → Prop} : ixT (x0 :: x1 :: x2 :: x3 :: l) 3 P = P 3 x3 := ixT_lit (by simp <;> omega) rfl
@[simp] theorem ixD_lit4 {x0 x1 x2 x3 x4 : D} {l : List D} {P : Nat → D → Prop} : ixD (x0 :: x1 :: x2 :: x3 :: x4 :: l) 4 P = P 4 x4 := ixD_lit (by simp <;> omega) rfl
@[simp] theorem ixT_lit4 {x0 x1 x2 x3 x4 : T} {l : List T} {P : Nat → T → Prop} : ixT (x0 :: x1 :: x2 :: x3 :: x4 :: l) 4 P = P 4 x4 := ixT_lit (by simp <;> omega) rfl
@[simp] theorem ixD_lit5 {x0 x1 x2 x3 x4 x5 : D} {l : List D} {P : Nat → D → Prop} : ixD (x0 :: x1 :: x2 :: x3 :: x4 :: x5 :: l) 5 P = P 5 x5 := ixD_lit (by simp <;> omega) rfl
@[simp] theorem ixT_lit5 {x0 x1 x2 x3 x4 x5 : T} {l : List T} {P : Nat → T → Prop} : ixT (x0 :: x1 :: x2 :: x3 :: x4 :: x5 :: l) 5 P = P 5 x5 := ixT_lit (by simp <;> omega) rfl
@[simp] theorem ixD_lit6 {x0 x1 x2 x3 x4 x5 x6 : D} {l : List D} {P : Nat → D → Prop} : ixD (x0 :: x1 :: x2 :: x3 :: x4 :: x5 :: x6 :: l) 6 P = P 6 x6 := ixD_lit (by simp <;> omega) rfl
@[simp] theorem ixT_lit6 {x0 x1 x2 x3 x4 x5 x6 : T} {l : List T} {P : Nat → T → Prop} : ixT (x0 :: x1 :: x2 :: x3 :: x4 :: x5 :: x6 :: l) 6 P = P 6 x6 := ixT_lit (by simp <;> omega) rfl
@[simp] theorem ixD_lit7 {x0 x1 x2 x3 x4 x5 x6 x7 : D} {l : List D} {P : Nat → D → Prop} : ixD (x0 :: x1 :: x2 :: x3 :: x4 :: x5 :: x6 :: x7 :: l) 7 P = P 7 x7 := ixD_lit (by simp <;> omega) rfl
@[simp] theorem ixT_lit7 {x0 x1 x2 x3 x4 x5 x6 x7 : T} {l : List T} {P : Nat → T → Prop} : ixT (x0 :: x1 :: x2 :: x3 :: x4 :: x5 :: x6 :: x7 :: l) 7 P = P 7 x7 := ixT_lit (by simp <;> omega) rfl
@[simp] theorem ixD_lit8 {x0 x1 x2 x3 x4 x5 x6 x7 x8 : D} {l : List D} {P : Nat → D → Prop} : ixD (x0 :: x1 :: x2 :: x3 :: x4 :: x5 :: x6 :: x7 :: x8 :: l) 8 P = P 8 x8 := ixD_lit (by simp <;> omega) rfl
@[simp] theorem ixT_lit8 {x0 x1 x2 x3 x4 x5 x6 x7 x8 : T} {l : List T} {P : Nat → T → Prop} : ixT (x0 :: x1 :: x2 :: x3 :: x4 :: x5 :: x6 :: x7 :: x8 :: l) 8 P = P 8 x8 := ixT_lit (by simp <;> omega) rfl
@[simp] theorem ixD_lit9 {x0 x1 x2 x3 x4 x5 x6 x7 x8 x9 : D} {l : List D} {P : Nat → D → Prop} : ixD (x0 :: x1 :: x2 :: x3 :: x4 :: x5 :: x6 :: x7 :: x8 :: x9 :: l) 9 P = P 9 x9 := ixD_lit (by simp <;> omega) rfl
@[simp] theorem ixT_lit9 {x0 x1 x2 x3 x4 x5 x6 x7 x8 x9 : T} {l : List T} {P : Nat → T → Prop} : ixT (x0 :: x1 :: x2 :: x3 :: x4 :: x5 :: x6 :: x7 :: x8 :: x9 :: l) 9 P = P 9 x9 := ixT_lit (by simp <;> omega) rfl
/-! ### comprehensions by what they give -/
def lcK (it : ItD) (tgt : Tgt) (pt : PB) (pe : PX) (vs : List Nat) (env : En) (k : R → Prop) : Prop := ∃ Pv : Nat → List T → Prop, (it.src = true ∨ it.items.length ≤ 16777216) ∧ Pv 0 [] ∧
  (∀ i d acc, it.items[i]? = some d → acc.length ≤ i → Pv i acc → lcTurn tgt pt pe (wipeE env vs) d (fun t => Pv (i + 1) (acc ++ [t])) (Pv (i + 1) acc)) ∧ ∀ acc, acc.length ≤ it.items.length → Pv it.items.length acc → k (.va (.node .lst acc))
@[simp] theorem pLc_eq {pi : PI'} {tgt : Tgt} {pt : PB} {pe : PX} {vs : List Nat} {env : En} {k : R → Prop} : pLc pi tgt pt pe vs env k = pi env fun it => lcK it tgt pt pe vs env k := rfl
section
variable {items : List D} {lock : Option Nat} {src : Bool} {tgt : Tgt} {pt : PB} {pe : PX} {vs : List Nat} {env : En} {k : R → Prop} {α β : Type}
theorem lc_inv (Pv : Nat → List T → Prop) (hb : src = true ∨ items.length ≤ 16777216) (h0 : Pv 0 []) (hs : ∀ i d acc, items[i]? = some d → i < items.length → acc.length ≤ i → Pv i acc → lcTurn tgt pt pe (wipeE env vs) d (fun t => Pv (i + 1) (acc ++ [t])) (Pv (i + 1) acc))
    (hd : ∀ acc, acc.length ≤ items.length → Pv items.length acc → k (.va (.node .lst acc))) : lcK ⟨items, lock, src⟩ tgt pt pe vs env k :=
  ⟨Pv, hb, h0, fun i d acc e l p => hs i d acc e (List.getElem?_eq_some_iff.mp e).1 l p, hd⟩
/-- kept where p, changed by g -/
theorem lc_filter {f : α → D} {xs : List α} (p : α → Bool) (g : α → T) (hb : src = true ∨ xs.length ≤ 16777216) (ht : ∀ i (h : i < xs.length) (Y : T → Prop) (N : Prop), (p xs[i] = true → Y (g xs[i])) → (p xs[i] = false → N) → lcTurn tgt pt pe (wipeE env vs) (f xs[i]) Y N)
    (hd : k (.va (.node .lst ((xs.filter p).map g)))) : lcK ⟨xs.map f, lock, src⟩ tgt pt pe vs env k := by
  refine lc_inv (fun i acc => acc = ((xs.take i).filter p).map g) (by rw [List.length_map]; exact hb) rfl (fun i d acc e hi l q => ?_) (fun acc _ q => ?_)
  · obtain ⟨hi', rfl⟩ := map_some e
    subst q
    refine ht i hi' _ _ (fun c => ?_) (fun c => ?_)
    · rw [take_snoc hi', List.filter_append, List.map_append]
      simp [c]
    · rw [take_snoc hi', List.filter_append, List.map_append]
      simp [c]
  · subst q
    rw [List.length_map, List.take_length]
    exact hd
theorem lc_map {f : α → D} {xs : List α} (g : α → T) (hb : src = true ∨ xs.length ≤ 16777216) (ht : ∀ i (h : i < xs.length) (Y : T → Prop) (N : Prop), Y (g xs[i]) → lcTurn tgt pt pe (wipeE env vs) (f xs[i]) Y N)
    (hd : k (.va (.node .lst (xs.map g)))) : lcK ⟨xs.map f, lock, src⟩ tgt pt pe vs env k :=
  lc_filter (fun _ => true) g hb (fun i h Y N a b => ht i h Y N (a rfl)) (by rw [List.filter_eq_self.mpr (fun _ _ => rfl)]; exact hd)
theorem rngL_map (lo : Int) (n : Nat) : rngL lo n = (List.range n).map fun i => D.int (lo + ((i : Nat) : Int)) := rfl
theorem lc_rng {lo : Int} {n : Nat} (g : Nat → T) (hb : n ≤ 16777216) (ht : ∀ i, i < n → ∀ (Y : T → Prop) (N : Prop), Y (g i) → lcTurn tgt pt pe (wipeE env vs) (.int (lo + (i : Int))) Y N)
    (hd : k (.va (.node .lst ((List.range n).map g)))) : lcK ⟨rngL lo n, lock, src⟩ tgt pt pe vs env k := by
  rw [rngL_map]
  refine lc_map g (.inr (by rw [List.length_range]; exact hb)) (fun i h Y N y => ?_) hd
  rw [List.length_range] at h
  simp only [List.getElem_range] at y ⊢
  exact ht i h Y N y
theorem lc_rngF {lo : Int} {n : Nat} (p : Nat → Bool) (g : Nat → T) (hb : n ≤ 16777216) (ht : ∀ i, i < n → ∀ (Y : T → Prop) (N : Prop), (p i = true → Y (g i)) → (p i = false → N) → lcTurn tgt pt pe (wipeE env vs) (.int (lo + (i : Int))) Y N)
    (hd : k (.va (.node .lst (((List.range n).filter p).map g)))) : lcK ⟨rngL lo n, lock, src⟩ tgt pt pe vs env k := by
  rw [rngL_map]
  refine lc_filter p g (.inr (by rw [List.length_range]; exact hb)) (fun i h Y N y z => ?_) hd
  rw [List.length_range] at h
  simp only [List.getElem_range] at y z ⊢
  exact ht i h Y N y z
/-- of things of a kind -/
theorem lc_all (mk : β → T) (P : β → Prop) (hb : src = true ∨ items.length ≤ 16777216) (ht : ∀ i d (Y : T → Prop) (N : Prop), items[i]? = some d → i < items.length → N → (∀ b, P b → Y (mk b)) → lcTurn tgt pt pe (wipeE env vs) d Y N)
    (hd : ∀ bs : List β, bs.length ≤ items.length → (∀ b ∈ bs, P b) → k (.va (.node .lst (bs.map mk)))) : lcK ⟨items, lock, src⟩ tgt pt pe vs env k := by
  refine lc_inv (fun i acc => ∃ bs : List β, acc = bs.map mk ∧ ∀ b ∈ bs, P b) hb ⟨[], rfl, fun _ z => nomatch z⟩ (fun i d acc e hi l ⟨bs, q, hP⟩ => ?_) (fun acc l ⟨bs, q, hP⟩ => ?_)
  · subst q
    refine ht i d _ _ e hi ⟨bs, rfl, hP⟩ fun b hb => ⟨bs ++ [b], by simp, fun x hx => ?_⟩
    rcases List.mem_append.mp hx with hx | hx
    · exact hP x hx
    · cases List.mem_singleton.mp hx
      exact hb
  · subst q
    rw [List.length_map] at l
    exact hd bs l hP
end

/-! ### parts of lists -/
theorem sIx_pos {n d : Nat} {i : Int} (h0 : 0 ≤ i) : HT.sIx n d (some i) = min i.toNat n := by
  show (if i < 0 then (i + (n : Int)).toNat else min i.toNat n) = _
  rw [if_neg (by omega)]
theorem cutL_to {α : Type} {xs : List α} {i : Int} (h0 : 0 ≤ i) : cutL xs none (some i) = xs.take i.toNat := by
  unfold cutL
  rw [sIx_pos h0]
  show (xs.drop 0).take (min i.toNat xs.length - 0) = _
  rw [List.drop_zero, Nat.sub_zero, List.take_eq_take_iff]
  omega
theorem cutL_from {α : Type} {xs : List α} {i : Int} (h0 : 0 ≤ i) : cutL xs (some i) none = xs.drop i.toNat := by
  unfold cutL
  rw [sIx_pos h0]
  show (xs.drop (min i.toNat xs.length)).take (xs.length - min i.toNat xs.length) = _
  by_cases h : i.toNat ≤ xs.length
  · rw [Nat.min_eq_left h, List.take_of_length_le (by rw [List.length_drop]; omega)]
  · rw [Nat.min_eq_right (by omega), List.drop_length, List.drop_eq_nil_of_le (by omega)]
    simp
theorem cutL_mid {α : Type} {xs : List α} {i j : Int} (h0 : 0 ≤ i) (h1 : 0 ≤ j) : cutL xs (some i) (some j) = (xs.drop i.toNat).take (j.toNat - i.toNat) := by
  unfold cutL
  rw [sIx_pos h0, sIx_pos h1]
  by_cases h : i.toNat ≤ xs.length
  · rw [Nat.min_eq_left h, List.take_eq_take_iff, List.length_drop]
    omega
  · rw [show min i.toNat xs.length = xs.length from by omega, List.drop_length, List.drop_eq_nil_of_le (by omega)]
    simp
theorem cutL_len {α : Type} (xs : List α) (lo hi : Option Int) : (cutL xs lo hi).length ≤ xs.length := by
  unfold cutL
  rw [List.length_take, List.length_drop]
  omega
theorem cutL_mem {α : Type} {xs : List α} {lo hi : Option Int} {x : α} (h : x ∈ cutL xs lo hi) : x ∈ xs := by
  unfold cutL at h
  exact List.mem_of_mem_drop (List.mem_of_mem_take h)

theorem ixD_last {ns : List Int} {P : Nat → D → Prop} (h : 0 < ns.length) (q : P (ns.length - 1) (.int (gi ns (ns.length - 1)))) : ixD (ns.map D.int) (-1) P := by
  refine ⟨ns.length - 1, _, ?_, ?_, q⟩
  · rw [ixN_neg (by omega) (by rw [List.length_map]; omega), List.length_map]
    congr 1
    omega
  · rw [List.getElem?_map, List.getElem?_eq_getElem (by omega), gi_eq (by omega)]
    rfl
theorem mem_take {α : Type} {xs : List α} {k : Nat} {x : α} (hk : k < xs.length) (h : x ∈ xs.take (k + 1)) : x ∈ xs.take k ∨ x = xs[k] := by
  rw [take_snoc hk] at h
  rcases List.mem_append.mp h with z | z
  · exact .inl z
  · exact .inr (List.mem_singleton.mp z)

@[simp] theorem any_ints_take {ns : List Int} {n : Int} {k : Nat} : inL (.int n) ((ns.map D.int).take k) = decide (n ∈ ns.take k) := by
  rw [← List.map_take, any_ints]
@[simp] theorem shpL_take {ns : List Int} {j k : Nat} : shpL k ((ns.map D.int).take j) = true := by
  rw [← List.map_take, shpL_ints]
theorem nodup_take (ns : List Int) : ns.Nodup ↔ ∀ j, j < ns.length → gi ns j ∉ ns.take j := by
  refine ⟨fun h j hj hm => ?_, fun h => ?_⟩
  · obtain ⟨i, hi, e⟩ := List.getElem_of_mem hm
    rw [List.length_take] at hi
    rw [List.getElem_take, gi_eq hj] at e
    exact List.pairwise_iff_getElem.mp h i j (by omega) hj (by omega) e
  · refine List.pairwise_iff_getElem.mpr fun i j hi hj hij e => h j hj ?_
    rw [gi_eq hj, ← e]
    have : i < (ns.take j).length := by rw [List.length_take]; omega
    have e2 : (ns.take j)[i] = ns[i] := List.getElem_take ..
    rw [← e2]
    exact List.getElem_mem this

mutual
theorem deq_refl : ∀ (d : D) (n : Nat), shp n d = true → deq d d = true
  | .non, _, _ => rfl
  | .bl b, _, _ => by simp [deq, D.py, PyData.eqv]
  | .int b, _, _ => by simp [deq, D.py, PyData.eqv]
  | .str b, _, _ => by simp [deq, D.py, PyData.eqv]
  | .node .lst ks, 0, h => by simp [shp] at h
  | .node .tup ks, 0, h => by simp [shp] at h
  | .node .lst ks, n + 1, h => by
    show PyData.eqvAll (pys ks) (pys ks) = true
    exact deqs_refl ks n (by simpa [shp] using h)
  | .node .tup ks, n + 1, h => by
    show PyData.eqvAll (pys ks) (pys ks) = true
    exact deqs_refl ks n (by simpa [shp] using h)
  | .node .ro ks, n, h => by simp [shp] at h
  | .node (.dK _) ks, n, h => by simp [shp] at h
  | .node (.dT _) ks, n, h => by simp [shp] at h
  | .node (.obj _ _) ks, n, h => by simp [shp] at h
theorem deqs_refl : ∀ (ds : List D) (n : Nat), shpL n ds = true → PyData.eqvAll (pys ds) (pys ds) = true
  | [], _, _ => rfl
  | d :: ds, n, h => by
    have h' : shp n d = true ∧ shpL n ds = true := by simpa [shpL] using h
    show (PyData.eqv d.py d.py && PyData.eqvAll (pys ds) (pys ds)) = true
    rw [show PyData.eqv d.py d.py = true from deq_refl d n h'.1, deqs_refl ds n h'.2]
    rfl
end
end PL

namespace K05
open PySem L2 PL
/-! ### the data -/
abbrev dI (ns : List Int) : D := .node .lst (ns.map .int)
abbrev tI (ns : List Int) : T := .node .lst (ns.map fun n => .s (.int n))
def optD : Option Int → D
  | none => .non
  | some c => .int c
structure Rw where
  a : Int
  pl : List Int
  ti : List Int
def rowD (r : Rw) : D := .node .lst [.int r.a, dI r.pl, dI r.ti]
def rowF (b c d : Bool) (r : Rw) : D := .node (sqS b) [.int r.a, .node (sqS c) (r.pl.map .int), .node (sqS d) (r.ti.map .int)]
def eD (b : Bool) (e : List Int) : D := .node (sqS b) (e.map .int)
structure Qn where
  n : Int
  es : List (List Int)
  cs : List (Option Int)
  zs : List Int
  os : List Int
  rows : List Rw
def qD (q : Qn) : D := .node .lst [.int q.n, .node .lst (q.es.map dI), .node .lst (q.cs.map optD), dI q.zs, dI q.os, .node .lst (q.rows.map rowD)]
def WFR (r : Rw) : Prop := r.pl.length < 60 ∧ r.ti.length < 60
def WFQ (q : Qn) : Prop := q.cs.length = q.es.length ∧ q.es.length ≤ 1000 ∧ q.rows.length ≤ 1000 ∧ ∀ r ∈ q.rows, WFR r
def IsRow (n : Int) (es : List (List Int)) (pl ti : List Int) : Prop := pl.length ≠ 0 ∧ ti.length + 1 = pl.length ∧ (∀ k, k < pl.length → 0 ≤ gi pl k ∧ gi pl k < n) ∧
  ∀ k, k < ti.length → (0 ≤ gi ti k ∧ gi ti k < es.length) ∧ gi pl k ≠ gi pl (k + 1) ∧ gi pl k ∈ ge es (gi ti k).toNat ∧ gi pl (k + 1) ∈ ge es (gi ti k).toNat
def addTie (a : Int) (u : List Int) (j : Int) : List Int := u.set j.toNat (gi u j.toNat + a)
def addRow (u : List Int) (r : Rw) : List Int := r.ti.foldl (addTie r.a) u
def usedOf (n : Nat) (rows : List Rw) : List Int := rows.foldl addRow (List.replicate n 0)
def RowOk (n : Int) (es : List (List Int)) (zs os : List Int) (r : Rw) : Prop := 1 ≤ r.a ∧ IsRow n es r.pl r.ti ∧ r.pl.Nodup ∧ r.ti.Nodup ∧ gi r.pl 0 ∈ zs ∧ gi r.pl (r.pl.length - 1) ∈ os
def IsPack (q : Qn) : Prop := (∀ r ∈ q.rows, RowOk q.n q.es q.zs q.os r) ∧ ∀ k, k < q.es.length → ∀ c, q.cs[k]? = some (some c) → ¬ c < gi (usedOf q.es.length q.rows) k
/-! ### what is promised of each def -/
def sp_law_cell : SpcP := ⟨List Int × Int, fun ds a => ds = [.node .ro (a.1.map .int), .int a.2] ∧ a.1.length ≤ 63 ∧ 0 ≤ a.2 ∧ a.2 ≤ 1000, fun a t => ∃ z : Int, t = .s (.int z)⟩
def sp_law_digits : SpcP := ⟨Int × List Int, fun ds a => ds = [.int a.1, dI a.2] ∧ a.2.length ≤ 10000 ∧ ∀ s ∈ a.2, 0 < s ∧ s ≤ 4611686018427387904, fun a t => ∃ rs, t = tI rs ∧ Dig rs a.2⟩
def sp_is_row : SpcP := ⟨(Bool × Bool × Bool × Bool) × Int × List (List Int) × List Int × List Int,
  fun ds ⟨⟨b1, b2, b3, b4⟩, n, es, pl, ti⟩ => ds = [.int n, .node (sqS b1) (es.map (eD b2)), .node .tup [.node (sqS b3) (pl.map .int), .node (sqS b4) (ti.map .int)]] ∧ pl.length ≤ 1000 ∧ ti.length ≤ 1000 ∧ es.length ≤ 100000,
  fun ⟨_, n, es, pl, ti⟩ t => ∃ b, t = .s (.bl b) ∧ (b = true ↔ IsRow n es pl ti)⟩
def sp_has_double : SpcP := ⟨Bool × List Int, fun ds ⟨b, ns⟩ => ds = [.node (sqS b) (ns.map .int)] ∧ ns.length < 64, fun ⟨_, ns⟩ t => ∃ b, t = .s (.bl b) ∧ (b = true ↔ ¬ ns.Nodup)⟩
def sp_is_packing : SpcP := ⟨(Bool × Bool × Bool × Bool × Bool) × (Bool × Bool × Bool × Bool) × Qn,
  fun ds ⟨⟨b1, b2, b3, b4, b5⟩, ⟨c1, c2, c3, c4⟩, q⟩ => ds = [.int q.n, .node (sqS b1) (q.es.map (eD b2)), .node (sqS b3) (q.cs.map optD), .node (sqS b4) (q.zs.map .int), .node (sqS b5) (q.os.map .int), .node (sqS c1) (q.rows.map (rowF c2 c3 c4))] ∧ WFQ q,
  fun ⟨_, _, q⟩ t => ∃ b, t = .s (.bl b) ∧ (b = true ↔ IsPack q)⟩
/-- whole numbers in a range -/
def Inr (n : Int) (ns : List Int) : Prop := ns.length ≤ 100 ∧ ∀ x ∈ ns, 0 ≤ x ∧ x < n
def sp_law_held : SpcP := ⟨Int × List Int, fun ds ⟨n, cs⟩ => ds = [.int n, dI cs] ∧ 0 ≤ n ∧ n ≤ 100, fun ⟨n, cs⟩ t => ∃ rs, t = tI rs ∧ Inr n rs⟩
def sp_law_small_edge : SpcP := ⟨Int × Int × List (List Int) × Bool, fun ds ⟨z, n, es, b⟩ => ds = [.int z, .int n, .node .lst (es.map dI), .bl b] ∧ 1 ≤ n ∧ n ≤ 8 ∧ es.length ≤ 1000 ∧ ∀ e ∈ es, Inr n e, fun ⟨z, n, es, b⟩ t => ∃ rs, t = tI rs ∧ Inr n rs⟩
abbrev tE (es : List (List Int)) : T := .node .lst (es.map fun e => .s (dI e))
def sp_law_wide_edges : SpcP := ⟨Int × Int, fun ds ⟨z, n⟩ => ds = [.int z, .int n] ∧ 9 ≤ n ∧ n ≤ 100, fun ⟨z, n⟩ t => ∃ es, t = tE es ∧ es.length = 7 ∧ ∀ e ∈ es, Inr n e⟩
def sp_law_net : SpcP := ⟨List Int × Int, fun ds ⟨ns, a⟩ => ds = [.node .ro (ns.map .int), .int a] ∧ ns.length ≤ 63 ∧ 0 ≤ a ∧ a ≤ 100, fun _ t => ∃ (n : Int) (es : List (List Int)), t = .node .lst [.s (.int n), .s (.node .lst (es.map dI))] ∧ 1 ≤ n ∧ n ≤ 100 ∧ es.length ≤ 63 ∧ ∀ e ∈ es, Inr n e⟩
def formD (f : Int) (xss : List (List D)) : D := if f = 0 then .node .lst (xss.map (.node .lst)) else if f = 1 then .node .tup (xss.map (.node .tup)) else if f = 2 then .node .lst (xss.map (.node .tup)) else .node .tup (xss.map (.node .lst))
def sp_law_form : SpcP := ⟨Int × List (List D), fun ds ⟨f, xss⟩ => ds = [.node .lst (xss.map (.node .lst)), .int f], fun ⟨f, xss⟩ t => t.er = formD f xss⟩
def paperD (f : Int) (rows : List Rw) : D := if f = 0 then .node .lst (rows.map (rowF false false false)) else if f = 1 then .node .tup (rows.map (rowF true true true)) else if f = 2 then .node .lst (rows.map (rowF true false true)) else .node .tup (rows.map (rowF false true false))
def sp_law_paper : SpcP := ⟨Int × List Rw, fun ds ⟨f, rows⟩ => ds = [.node .lst (rows.map rowD), .int f], fun ⟨f, rows⟩ t => t.er = paperD f rows⟩
/-- rows drawn -/
def DR (m : Nat) (r : Rw) : Prop := r.pl.length = r.ti.length + 1 ∧ r.ti.length ≤ 10 ∧ ∀ j ∈ r.ti, 0 ≤ j ∧ j < (m : Int)
abbrev tR (r : Rw) : T := .node .lst [.s (.int r.a), .s (dI r.pl), .s (dI r.ti)]
def sp_law_drawn_row : SpcP := ⟨Int × List (List Int) × Int, fun ds ⟨n, es, z⟩ => ds = [.int n, .node .lst (es.map dI), .int z] ∧ 1 ≤ n ∧ n ≤ 100 ∧ es.length ≤ 64 ∧ (∀ e ∈ es, Inr n e), fun ⟨n, es, z⟩ t => ∃ r, t = tR r ∧ DR es.length r ∧ (0 < r.ti.length → 2 ≤ n)⟩
def sp_law_used : SpcP := ⟨List (List Int) × List Rw, fun ds ⟨es, rows⟩ => ds = [.node .lst (es.map dI), .node .lst (rows.map rowD)] ∧ ∀ r ∈ rows, ∀ j ∈ r.ti, 0 ≤ j ∧ j < (es.length : Int), fun ⟨es, rows⟩ t => t = tI (usedOf es.length rows)⟩
def sp_law_packing : SpcP := ⟨Qn, fun ds q => ds = [qD q] ∧ WFQ q, fun q t => ∃ b, t = .s (.bl b) ∧ (b = true ↔ IsPack q)⟩
def sp_law_asked : SpcP := ⟨Qn × Int, fun ds ⟨q, f⟩ => ds = [qD q, .int f] ∧ WFQ q ∧ 0 ≤ f ∧ f ≤ 3, fun _ t => t = .s (.bl true)⟩
abbrev tRs (rows : List Rw) : T := .node .lst (rows.map fun r => .s (rowD r))
def sp_law_with : SpcP := ⟨List Rw × Int × Rw, fun ds ⟨rows, a, r⟩ => ds = [.node .lst (rows.map rowD), .int a, .int r.a, dI r.pl, dI r.ti] ∧ 0 ≤ a ∧ a < (rows.length : Int) ∧ rows.length ≤ 1000, fun ⟨rows, a, r⟩ t => ∃ rows', t = tRs rows' ∧ rows'.length = rows.length ∧ ∀ x ∈ rows', x ∈ rows ∨ x = r⟩
def sp_law_cost : SpcP := ⟨List (Option Int) × Int × Option Int, fun ds ⟨cs, a, c⟩ => ds = [.node .lst (cs.map optD), .int a, optD c] ∧ 0 ≤ a ∧ a < (cs.length : Int) ∧ cs.length ≤ 1000, fun ⟨cs, a, c⟩ t => ∃ cs' : List (Option Int), t = .node .lst (cs'.map fun c => .s (optD c)) ∧ cs'.length = cs.length⟩
/-- a question of drawn rows -/
def Base (q : Qn) : Prop := q.cs.length = q.es.length ∧ q.es.length ≤ 100 ∧ q.rows.length ≤ 200 ∧ ∀ r ∈ q.rows, DR q.es.length r
def Few (q : Qn) : Prop := q.cs.length = q.es.length ∧ q.es.length ≤ 100 ∧ q.rows.length ≤ 200 ∧ (∀ r ∈ q.rows, DR q.es.length r) ∧ q.zs.length ≤ 1000 ∧ q.os.length ≤ 1000
abbrev tQs (qs : List Qn) : T := .node .lst (qs.map fun q => .s (qD q))
def sp_law_about_costs : SpcP := ⟨Qn × Int × Int, fun ds ⟨q, a, k⟩ => ds = [qD q, .int a, .int k] ∧ Base q ∧ 0 ≤ a ∧ 0 ≤ k ∧ ∃ r, q.rows[a.toNat]? = some r ∧ k < (r.ti.length : Int), fun _ t => ∃ qs, t = tQs qs ∧ qs.length ≤ 20 ∧ ∀ q ∈ qs, WFQ q⟩
def sp_law_about_rows : SpcP := ⟨Qn × Int × Int × Int, fun ds ⟨q, a, k, o⟩ => ds = [qD q, .int a, .int k, .int o] ∧ Base q ∧ 0 ≤ a ∧ 0 ≤ k ∧ ∃ r, q.rows[a.toNat]? = some r ∧ k < (r.ti.length : Int), fun _ t => ∃ qs, t = tQs qs ∧ qs.length ≤ 20 ∧ ∀ q ∈ qs, WFQ q⟩
def sp_law_about_few : SpcP := ⟨Qn × Int × Int × Int, fun ds ⟨q, a, b, c⟩ => ds = [qD q, .int a, .int b, .int c] ∧ Few q, fun _ t => ∃ qs, t = tQs qs ∧ qs.length ≤ 20 ∧ ∀ q ∈ qs, WFQ q⟩
def sp_law : SpcP := ⟨List Int, fun ds ns => ds = [.node .ro (ns.map .int)] ∧ ns.length ≤ 63, fun _ t => t = .s (.bl true)⟩
end K05

namespace K05
open PySem L2 PL
abbrev N_is_row : List Str := ["nodes", "edges", "row", "places", "ties", "node", "k"]
/-! is_row(nodes, edges, row); slots 0:nodes 1:edges 2:row 3:places 4:ties 5:node 6:k -/
def is_row_3 : PSt := (pRet (pLift (pC (.bl false))))
def is_row_6 : PSt := (pRet (pLift (pC (.bl false))))
def is_row_5 : PSt := (pIf (pOrT (p2T gLt (pVar 5) (pC (.int 0))) (p2T gGe (pVar 5) (pVar 0))) is_row_6 pNext)
def is_row_9 : PSt := (pRet (pLift (pC (.bl false))))
def is_row_11 : PSt := (pRet (pLift (pC (.bl false))))
def is_row_13 : PSt := (pRet (pLift (pC (.bl false))))
def is_row_12 : PSt := (pIf (pOrT (p2T (gIn true) (pIx (pVar 3) (pVar 6)) (pIx (pVar 1) (pIx (pVar 4) (pVar 6)))) (p2T (gIn true) (pIx (pVar 3) (pOp gAdd (pVar 6) (pC (.int 1)))) (pIx (pVar 1) (pIx (pVar 4) (pVar 6))))) is_row_13 pNext)
def is_row_10 : PSt := pSeq (pIf (p2T gEq (pIx (pVar 3) (pVar 6)) (pIx (pVar 3) (pOp gAdd (pVar 6) (pC (.int 1))))) is_row_11 pNext) is_row_12
def is_row_8 : PSt := pSeq (pIf (pOrT (p2T gLt (pIx (pVar 4) (pVar 6)) (pC (.int 0))) (p2T gGe (pIx (pVar 4) (pVar 6)) (pCB gLen (pCons (pVar 1) pNil)))) is_row_9 pNext) is_row_10
def is_row_14 : PSt := (pRet (pLift (pC (.bl true))))
def is_row_7 : PSt := pSeq (pFor (pRng1 (pCB gLen (pCons (pVar 4) pNil))) (.nm 6) is_row_8) is_row_14
def is_row_4 : PSt := pSeq (pFor (pSeqI (pVar 3)) (.nm 5) is_row_5) is_row_7
def is_row_2 : PSt := pSeq (pIf (pOrT (p2T gEq (pCB gLen (pCons (pVar 3) pNil)) (pC (.int 0))) (p2T gNe (pCB gLen (pCons (pVar 4) pNil)) (p2 gSubI (pCB gLen (pCons (pVar 3) pNil)) (pC (.int 1))))) is_row_3 pNext) is_row_4
def is_row_1 : PSt := pSeq (pAsgT (.tup [(.nm 3), (.nm 4)]) (pLift (pVar 2))) is_row_2
abbrev N_has_double : List Str := ["items"]
/-! has_double(items); slots 0:items -/
def has_double_1 : PSt := (pRet (pLift (p2 gNe (pCB gKinds (pCons (pC1 gList (pVar 0)) pNil)) (pCB gLen (pCons (pVar 0) pNil)))))
abbrev N_is_packing : List Str := ["nodes", "edges", "costs", "zeros", "ones", "packing", "used", "amount", "places", "ties", "number", "edge"]
/-! is_packing(nodes, edges, costs, zeros, ones, packing); slots 0:nodes 1:edges 2:costs 3:zeros 4:ones 5:packing 6:used 7:amount 8:places 9:ties 10:number 11:edge -/
def is_packing_4 : PSt := (pRet (pLift (pC (.bl false))))
def is_packing_6 : PSt := (pRet (pLift (pC (.bl false))))
def is_packing_8 : PSt := (pRet (pLift (pC (.bl false))))
def is_packing_10 : PSt := (pSetI (pLift (pOp gAdd (pIx (pVar 6) (pVar 10)) (pVar 7))) (pVar 6) (pVar 10))
def is_packing_9 : PSt := (pFor (pSeqI (pVar 9)) (.nm 10) is_packing_10)
def is_packing_7 : PSt := pSeq (pIf (pOrT (p2T (gIn true) (pIx (pVar 8) (pC (.int 0))) (pVar 3)) (p2T (gIn true) (pIx (pVar 8) (pNeg (pC (.int 1)))) (pVar 4))) is_packing_8 pNext) is_packing_9
def is_packing_5 : PSt := pSeq (pIf (pOrT (pBl (pCall (spS sp_has_double.s) (pCons (pVar 8) pNil))) (pBl (pCall (spS sp_has_double.s) (pCons (pVar 9) pNil)))) is_packing_6 pNext) is_packing_7
def is_packing_3 : PSt := pSeq (pIf (pOrT (p2T gLt (pVar 7) (pC (.int 1))) (pNotT (pBl (pCall (spS sp_is_row.s) (pCons (pVar 0) (pCons (pVar 1) (pCons (pTup (pCons (pVar 8) (pCons (pVar 9) pNil))) pNil))))))) is_packing_4 pNext) is_packing_5
def is_packing_13 : PSt := (pRet (pLift (pC (.bl false))))
def is_packing_12 : PSt := (pIf (pAndT (p2T (gIs true) (pIx (pVar 2) (pVar 10)) (pC .non)) (p2T gGt (pIx (pVar 6) (pVar 10)) (pIx (pVar 2) (pVar 10)))) is_packing_13 pNext)
def is_packing_14 : PSt := (pRet (pLift (pC (.bl true))))
def is_packing_11 : PSt := pSeq (pFor (pRng1 (pCB gLen (pCons (pVar 1) pNil))) (.nm 10) is_packing_12) is_packing_14
def is_packing_2 : PSt := pSeq (pFor (pSeqI (pVar 5)) (.tup [(.nm 7), (.nm 8), (.nm 9)]) is_packing_3) is_packing_11
def is_packing_1 : PSt := pSeq (pAsg 6 (pLift (pLc (pSeqI (pVar 1)) (.nm 11) pYes (pC (.int 0)) [11]))) is_packing_2
abbrev N_law_cell : List Str := ["script", "k", "seed", "cell"]
/-! _law_cell(script, k); slots 0:script 1:k 2:seed 3:cell -/
def law_cell_3 : PSt := (pRet (pLift (pCB gInt (pCons (pIx (pVar 0) (pVar 1)) pNil))))
def law_cell_4 : PSt := (pRet (pLift (pOp gAdd (pOp gMul (p2 gMod (pCB gInt (pCons (pIx (pVar 0) (pVar 1)) pNil)) (pC (.int 1000000007))) (pC (.int 64))) (pVar 1))))
def law_cell_2 : PSt := pSeq (pIf (p2T gGe (pIx (pVar 0) (pVar 1)) (p2 gPow (pC (.int 10)) (pC (.int 18)))) law_cell_3 pNext) law_cell_4
def law_cell_7 : PSt := (pAsg 2 (pLift (p2 gMod (pCB gInt (pCons (pOp gAdd (pOp gMul (pVar 2) (pC (.int 31))) (p2 gMod (pCB gInt (pCons (pVar 3) pNil)) (pC (.int 1000003)))) pNil)) (pC (.int 1000003)))))
def law_cell_8 : PSt := (pRet (pLift (p2 gMod (pCB gInt (pCons (pOp gMul (pOp gMul (pOp gAdd (pVar 2) (pC (.int 7))) (pOp gAdd (pVar 1) (pC (.int 3)))) (pC (.int 69621))) pNil)) (pC (.int 2147483647)))))
def law_cell_6 : PSt := pSeq (pFor (pSeqI (pVar 0)) (.nm 3) law_cell_7) law_cell_8
def law_cell_5 : PSt := pSeq (pAsg 2 (pLift (pC (.int 17)))) law_cell_6
def law_cell_1 : PSt := pSeq (pIf (p2T gLt (pVar 1) (pCB gLen (pCons (pVar 0) pNil))) law_cell_2 pNext) law_cell_5
abbrev N_law_digits : List Str := ["cell", "sizes", "row", "rest", "size", "seed", "k", "twice"]
/-! _law_digits(cell, sizes); slots 0:cell 1:sizes 2:row 3:rest 4:size 5:seed 6:k 7:twice -/
def law_digits_7 : PSt := (pAsg 3 (pLift (p2 gDiv (pCB gInt (pCons (pVar 3) pNil)) (pVar 4))))
def law_digits_6 : PSt := pSeq (pApp (pVar 2) (p2 gMod (pCB gInt (pCons (pVar 3) pNil)) (pVar 4))) law_digits_7
def law_digits_8 : PSt := (pRet (pMove 2))
def law_digits_5 : PSt := pSeq (pFor (pSeqI (pVar 1)) (.nm 4) law_digits_6) law_digits_8
def law_digits_4 : PSt := pSeq (pAsg 3 (pLift (p2 gSubI (pVar 3) (p2 gPow (pC (.int 10)) (pC (.int 18)))))) law_digits_5
def law_digits_13 : PSt := (pApp (pVar 2) (p2 gMod (p2 gDiv (pVar 7) (pC (.int 19))) (pIx (pVar 1) (pVar 6))))
def law_digits_12 : PSt := pSeq (pAsg 7 (pLift (p2 gMod (pCB gInt (pCons (pOp gMul (pVar 5) (pOp gAdd (p2 gDiv (pVar 5) (pC (.int 65537))) (pC (.int 3)))) pNil)) (pC (.int 2147483629))))) law_digits_13
def law_digits_11 : PSt := pSeq (pAsg 5 (pLift (p2 gMod (pCB gInt (pCons (pOp gAdd (pOp gAdd (pOp gMul (pVar 5) (pC (.int 48271))) (pOp gMul (pC (.int 974711)) (pVar 6))) (pC (.int 12345))) pNil)) (pC (.int 2147483647))))) law_digits_12
def law_digits_14 : PSt := (pRet (pMove 2))
def law_digits_10 : PSt := pSeq (pFor (pRng1 (pCB gLen (pCons (pVar 1) pNil))) (.nm 6) law_digits_11) law_digits_14
def law_digits_9 : PSt := pSeq (pAsg 5 (pLift (p2 gMod (pCB gInt (pCons (pVar 3) pNil)) (pC (.int 2147483629))))) law_digits_10
def law_digits_3 : PSt := pSeq (pIf (p2T gGe (pVar 3) (p2 gPow (pC (.int 10)) (pC (.int 18)))) law_digits_4 pNext) law_digits_9
def law_digits_2 : PSt := pSeq (pAsg 3 (pLift (pCB gInt (pCons (pVar 0) pNil)))) law_digits_3
def law_digits_1 : PSt := pSeq (pAsg 2 (pLift (pLst pNil))) law_digits_2
abbrev N_law_held : List Str := ["nodes", "chosen", "node"]
/-! _law_held(nodes, chosen); slots 0:nodes 1:chosen 2:node -/
def law_held_1 : PSt := (pRet (pLift (pLc (pRng1 (pVar 0)) (.nm 2) (p2T (gIn false) (pVar 2) (pVar 1)) (pVar 2) [2])))
abbrev N_law_small_edge : List Str := ["cell", "nodes", "edges", "loose", "powers", "row", "one", "two", "near", "node"]
/-! _law_small_edge(cell, nodes, edges, loose); slots 0:cell 1:nodes 2:edges 3:loose 4:powers 5:row 6:one 7:two 8:near 9:node -/
def law_small_edge_7 : PSt := (pAsg 8 (pLift (pCB gMax (pCons (pC (.int 0)) (pCons (p2 gSubI (p2 gSubI (pVar 6) (pC (.int 1))) (pIx (pVar 5) (pC (.int 3)))) pNil)))))
def law_small_edge_9 : PSt := (pRet (pLift (pLst (pCons (pVar 6) pNil))))
def law_small_edge_11 : PSt := (pRet (pLift (pC1 gList (pIx (pVar 2) (p2 gMod (pIx (pVar 5) (pC (.int 5))) (pCB gLen (pCons (pVar 2) pNil)))))))
def law_small_edge_13 : PSt := (pRet (pLift (pLc (pRng1 (pVar 1)) (.nm 9) (p2T gEq (p2 gMod (pCB gInt (pCons (p2 gDiv (pOp gAdd (pIx (pVar 5) (pC (.int 4))) (pC (.int 1))) (pIx (pVar 4) (pVar 9))) pNil)) (pC (.int 2))) (pC (.int 1))) (pVar 9) [9])))
def law_small_edge_15 : PSt := (pRet (pLift (pCall (spS sp_law_held.s) (pCons (pVar 1) (pCons (pLst (pCons (pVar 6) (pCons (pOp gAdd (pVar 6) (pC (.int 1))) (pCons (pOp gAdd (pVar 6) (pC (.int 2))) pNil)))) pNil)))))
def law_small_edge_17 : PSt := (pRet (pLift (pCall (spS sp_law_held.s) (pCons (pVar 1) (pCons (pLst (pCons (pVar 6) (pCons (pVar 7) pNil))) pNil)))))
def law_small_edge_18 : PSt := (pRet (pLift (pCall (spS sp_law_held.s) (pCons (pVar 1) (pCons (pLst (pCons (pVar 6) (pCons (pVar 8) pNil))) pNil)))))
def law_small_edge_16 : PSt := pSeq (pIf (pAndT (p2T gGt (pIx (pVar 5) (pC (.int 0))) (pC (.int 7))) (pBl (pVar 3))) law_small_edge_17 pNext) law_small_edge_18
def law_small_edge_14 : PSt := pSeq (pIf (p2T gEq (pIx (pVar 5) (pC (.int 0))) (pC (.int 3))) law_small_edge_15 pNext) law_small_edge_16
def law_small_edge_12 : PSt := pSeq (pIf (p2T gEq (pIx (pVar 5) (pC (.int 0))) (pC (.int 2))) law_small_edge_13 pNext) law_small_edge_14
def law_small_edge_10 : PSt := pSeq (pIf (pAndT (p2T gEq (pIx (pVar 5) (pC (.int 0))) (pC (.int 1))) (p2T gGt (pCB gLen (pCons (pVar 2) pNil)) (pC (.int 0)))) law_small_edge_11 pNext) law_small_edge_12
def law_small_edge_8 : PSt := pSeq (pIf (p2T gEq (pIx (pVar 5) (pC (.int 0))) (pC (.int 0))) law_small_edge_9 pNext) law_small_edge_10
def law_small_edge_6 : PSt := pSeq (pIf (p2T gGe (pVar 8) (pVar 1)) law_small_edge_7 pNext) law_small_edge_8
def law_small_edge_5 : PSt := pSeq (pAsg 8 (pLift (pOp gAdd (pOp gAdd (pVar 6) (pC (.int 1))) (pIx (pVar 5) (pC (.int 3)))))) law_small_edge_6
def law_small_edge_4 : PSt := pSeq (pAsg 7 (pLift (p2 gMod (pCB gInt (pCons (pOp gAdd (pOp gAdd (pVar 6) (pC (.int 1))) (p2 gMod (pIx (pVar 5) (pC (.int 2))) (pCB gMax (pCons (pC (.int 1)) (pCons (p2 gSubI (pVar 1) (pC (.int 1))) pNil))))) pNil)) (pVar 1)))) law_small_edge_5
def law_small_edge_3 : PSt := pSeq (pAsg 6 (pLift (pIx (pVar 5) (pC (.int 1))))) law_small_edge_4
def law_small_edge_2 : PSt := pSeq (pAsg 5 (pLift (pFz (pCall (spS sp_law_digits.s) (pCons (pVar 0) (pCons (pLst (pCons (pC (.int 12)) (pCons (pVar 1) (pCons (pVar 1) (pCons (pC (.int 2)) (pCons (p2 gSubI (pIx (pVar 4) (pVar 1)) (pC (.int 1))) (pCons (pC (.int 9)) pNil))))))) pNil)))))) law_small_edge_3
def law_small_edge_1 : PSt := pSeq (pAsg 4 (pLift (pFz (pLst (pCons (pC (.int 1)) (pCons (pC (.int 2)) (pCons (pC (.int 4)) (pCons (pC (.int 8)) (pCons (pC (.int 16)) (pCons (pC (.int 32)) (pCons (pC (.int 64)) (pCons (pC (.int 128)) (pCons (pC (.int 256)) pNil))))))))))))) law_small_edge_2
abbrev N_law_wide_edges : List Str := ["cell", "nodes", "row", "edges", "k", "one", "near", "two", "three", "chosen", "step"]
/-! _law_wide_edges(cell, nodes); slots 0:cell 1:nodes 2:row 3:edges 4:k 5:one 6:near 7:two 8:three 9:chosen 10:step -/
def law_wide_edges_11 : PSt := (pApp (pVar 3) (pFz (pCall (spS sp_law_held.s) (pCons (pVar 1) (pCons (pIx (pVar 9) (pIx (pVar 2) (pOp gMul (pC (.int 5)) (pVar 4)))) pNil)))))
def law_wide_edges_10 : PSt := pSeq (pApp (pVar 9) (pFz (pLc (pRng1 (pOp gAdd (pC (.int 5)) (pOp gMul (pC (.int 4)) (pIx (pVar 2) (pOp gAdd (pOp gMul (pC (.int 5)) (pVar 4)) (pC (.int 4))))))) (.nm 10) pYes (pOp gAdd (pVar 5) (pVar 10)) [10]))) law_wide_edges_11
def law_wide_edges_9 : PSt := pSeq (pApp (pVar 9) (pFz (pLst (pCons (pVar 5) (pCons (pVar 6) (pCons (pVar 7) (pCons (pVar 8) pNil))))))) law_wide_edges_10
def law_wide_edges_8 : PSt := pSeq (pAsg 9 (pLift (pLst (pCons (pFz (pLst (pCons (pVar 5) pNil))) (pCons (pFz (pLst (pCons (pVar 5) (pCons (pVar 6) pNil)))) (pCons (pFz (pLst (pCons (pVar 5) (pCons (pVar 6) pNil)))) (pCons (pFz (pLst (pCons (pVar 5) (pCons (pVar 6) pNil)))) (pCons (pFz (pLst (pCons (pVar 5) (pCons (pVar 7) pNil)))) (pCons (pFz (pLst (pCons (pVar 5) (pCons (pVar 6) (pCons (p2 gSubI (pVar 6) (pC (.int 1))) pNil))))) pNil))))))))) law_wide_edges_9
def law_wide_edges_7 : PSt := pSeq (pAsg 8 (pLift (p2 gMod (pCB gInt (pCons (pIx (pVar 2) (pOp gAdd (pOp gMul (pC (.int 5)) (pVar 4)) (pC (.int 3)))) pNil)) (pVar 1)))) law_wide_edges_8
def law_wide_edges_6 : PSt := pSeq (pAsg 7 (pLift (p2 gMod (pCB gInt (pCons (pIx (pVar 2) (pOp gAdd (pOp gMul (pC (.int 5)) (pVar 4)) (pC (.int 2)))) pNil)) (pVar 1)))) law_wide_edges_7
def law_wide_edges_5 : PSt := pSeq (pAsg 6 (pLift (pCB gMin (pCons (p2 gSubI (pVar 1) (pC (.int 1))) (pCons (pOp gAdd (pOp gAdd (pVar 5) (pC (.int 1))) (pIx (pVar 2) (pOp gAdd (pOp gMul (pC (.int 5)) (pVar 4)) (pC (.int 4))))) pNil))))) law_wide_edges_6
def law_wide_edges_4 : PSt := pSeq (pAsg 5 (pLift (p2 gMod (pCB gInt (pCons (pIx (pVar 2) (pOp gAdd (pOp gMul (pC (.int 5)) (pVar 4)) (pC (.int 1)))) pNil)) (pVar 1)))) law_wide_edges_5
def law_wide_edges_12 : PSt := (pRet (pMove 3))
def law_wide_edges_3 : PSt := pSeq (pFor (pRng1 (pC (.int 7))) (.nm 4) law_wide_edges_4) law_wide_edges_12
def law_wide_edges_2 : PSt := pSeq (pAsg 3 (pLift (pLst pNil))) law_wide_edges_3
def law_wide_edges_1 : PSt := pSeq (pAsg 2 (pLift (pFz (pCall (spS sp_law_digits.s) (pCons (pVar 0) (pCons (pOp gMul (pLst (pCons (pC (.int 8)) (pCons (pC (.int 60)) (pCons (pC (.int 60)) (pCons (pC (.int 60)) (pCons (pC (.int 5)) pNil)))))) (pC (.int 7))) pNil)))))) law_wide_edges_2
abbrev N_law_net : List Str := ["script", "at", "shape", "nodes", "many", "edges", "k", "order", "pair", "edge", "node"]
/-! _law_net(script, at); slots 0:script 1:at 2:shape 3:nodes 4:many 5:edges 6:k 7:order 8:pair 9:edge 10:node -/
def law_net_8 : PSt := (pAsg 5 (pLift (pOp gAdd (pVar 5) (pCall (spS sp_law_wide_edges.s) (pCons (pCall (spS sp_law_cell.s) (pCons (pVar 0) (pCons (pOp gAdd (pOp gAdd (pVar 1) (pC (.int 1))) (pVar 6)) pNil))) (pCons (pVar 3) pNil))))))
def law_net_9 : PSt := (pAsg 5 (pLift (pSl (pVar 5) pNoPart (pPart (pOp gAdd (pC (.int 8)) (pIx (pVar 2) (pC (.int 4))))))))
def law_net_7 : PSt := pSeq (pFor (pRng1 (pC (.int 9))) (.nm 6) law_net_8) law_net_9
def law_net_6 : PSt := pSeq (pAsg 3 (pLift (pOp gAdd (pC (.int 9)) (pIx (pVar 2) (pC (.int 3)))))) law_net_7
def law_net_12 : PSt := (pApp (pVar 5) (pFz (pCall (spS sp_law_small_edge.s) (pCons (pCall (spS sp_law_cell.s) (pCons (pVar 0) (pCons (pOp gAdd (pOp gAdd (pVar 1) (pC (.int 1))) (pVar 6)) pNil))) (pCons (pVar 3) (pCons (pVar 5) (pCons (p2 gEq (pIx (pVar 2) (pC (.int 5))) (pC (.int 0))) pNil)))))))
def law_net_11 : PSt := (pFor (pRng1 (pVar 4)) (.nm 6) law_net_12)
def law_net_14 : PSt := (pRet (pLift (pLst (pCons (pVar 3) (pCons (pFz (pLc (pSeqI (pVar 5)) (.nm 9) pYes (pFz (pC1 gSort (pLc (pSeqI (pVar 9)) (.nm 10) pYes (pIx (pVar 7) (pVar 10)) [10]))) [9])) pNil)))))
def law_net_13 : PSt := pSeq (pAsg 7 (pLift (pFz (pLc (pSeqI (pC1 gSort (pLc (pRng1 (pVar 3)) (.nm 6) pYes (pTup (pCons (pIx (pVar 2) (pOp gAdd (pC (.int 6)) (pVar 6))) (pCons (pVar 6) pNil))) [6]))) (.nm 8) pYes (pIx (pVar 8) (pC (.int 1))) [8])))) law_net_14
def law_net_5 : PSt := pSeq (pIf (p2T gEq (pIx (pVar 2) (pC (.int 2))) (pC (.int 7))) law_net_6 law_net_11) law_net_13
def law_net_4 : PSt := pSeq (pAsg 5 (pLift (pLst pNil))) law_net_5
def law_net_3 : PSt := pSeq (pAsg 4 (pLift (pFz (pIx (pLst (pCons (pC (.int 9)) (pCons (pC (.int 8)) (pCons (pC (.int 7)) (pCons (pC (.int 6)) (pCons (pC (.int 5)) (pCons (pC (.int 4)) (pCons (pC (.int 3)) (pCons (pC (.int 2)) (pCons (pC (.int 1)) (pCons (pC (.int 0)) (pCons (pC (.int 9)) (pCons (pC (.int 8)) (pCons (pC (.int 7)) (pCons (pC (.int 9)) (pCons (pC (.int 8)) (pCons (pC (.int 6)) (pCons (pC (.int 9)) (pCons (pC (.int 8)) (pCons (pC (.int 7)) (pCons (pC (.int 9)) (pCons (pC (.int 8)) (pCons (pC (.int 7)) (pCons (pC (.int 9)) (pCons (pC (.int 9)) pNil))))))))))))))))))))))))) (pIx (pVar 2) (pC (.int 1))))))) law_net_4
def law_net_2 : PSt := pSeq (pAsg 3 (pLift (pFz (pIx (pLst (pCons (pC (.int 8)) (pCons (pC (.int 7)) (pCons (pC (.int 6)) (pCons (pC (.int 5)) (pCons (pC (.int 4)) (pCons (pC (.int 3)) (pCons (pC (.int 2)) (pCons (pC (.int 1)) (pCons (pC (.int 8)) (pCons (pC (.int 7)) (pCons (pC (.int 8)) (pCons (pC (.int 6)) (pCons (pC (.int 8)) (pCons (pC (.int 7)) (pCons (pC (.int 8)) (pCons (pC (.int 6)) pNil))))))))))))))))) (pIx (pVar 2) (pC (.int 0))))))) law_net_3
def law_net_1 : PSt := pSeq (pAsg 2 (pLift (pFz (pCall (spS sp_law_digits.s) (pCons (pCall (spS sp_law_cell.s) (pCons (pVar 0) (pCons (pVar 1) pNil))) (pCons (pOp gAdd (pLst (pCons (pC (.int 16)) (pCons (pC (.int 24)) (pCons (pC (.int 8)) (pCons (pC (.int 52)) (pCons (pC (.int 56)) (pCons (pC (.int 3)) pNil))))))) (pOp gMul (pLst (pCons (pC (.int 1000)) pNil)) (pC (.int 60)))) pNil)))))) law_net_2
abbrev N_law_form : List Str := ["rows", "form", "row"]
/-! _law_form(rows, form); slots 0:rows 1:form 2:row -/
def law_form_2 : PSt := (pRet (pLift (pLc (pSeqI (pVar 0)) (.nm 2) pYes (pFz (pC1 gList (pVar 2))) [2])))
def law_form_4 : PSt := (pRet (pLift (pC1 gTuple (pLc (pSeqI (pVar 0)) (.nm 2) pYes (pC1 gTuple (pVar 2)) [2]))))
def law_form_6 : PSt := (pRet (pLift (pLc (pSeqI (pVar 0)) (.nm 2) pYes (pC1 gTuple (pVar 2)) [2])))
def law_form_7 : PSt := (pRet (pLift (pC1 gTuple (pLc (pSeqI (pVar 0)) (.nm 2) pYes (pFz (pC1 gList (pVar 2))) [2]))))
def law_form_5 : PSt := pSeq (pIf (p2T gEq (pVar 1) (pC (.int 2))) law_form_6 pNext) law_form_7
def law_form_3 : PSt := pSeq (pIf (p2T gEq (pVar 1) (pC (.int 1))) law_form_4 pNext) law_form_5
def law_form_1 : PSt := pSeq (pIf (p2T gEq (pVar 1) (pC (.int 0))) law_form_2 pNext) law_form_3
abbrev N_law_drawn_row : List Str := ["nodes", "edges", "cell", "draw", "begins", "places", "ties", "step", "options", "number", "chosen", "node", "edge"]
/-! _law_drawn_row(nodes, edges, cell); slots 0:nodes 1:edges 2:cell 3:draw 4:begins 5:places 6:ties 7:step 8:options 9:number 10:chosen 11:node 12:edge -/
def law_drawn_row_4 : PSt := (pAsg 4 (pLift (pFz (pLst (pCons (p2 gMod (pCB gInt (pCons (pIx (pVar 3) (pC (.int 0))) pNil)) (pVar 0)) pNil)))))
def law_drawn_row_11 : PSt := (pAsg 8 (pLift (pFz (pOp gAdd (pVar 8) (pLc (pSeqI (pIx (pVar 1) (pVar 9))) (.nm 11) (p2T (gIn true) (pVar 11) (pVar 5)) (pTup (pCons (pVar 11) (pCons (pVar 9) pNil))) [11])))))
def law_drawn_row_10 : PSt := (pIf (pAndT (p2T (gIn false) (pIx (pVar 5) (pVar 7)) (pIx (pVar 1) (pVar 9))) (p2T (gIn true) (pVar 9) (pVar 6))) law_drawn_row_11 pNext)
def law_drawn_row_13 : PSt := pBreak
def law_drawn_row_16 : PSt := (pApp (pVar 6) (pIx (pVar 10) (pC (.int 1))))
def law_drawn_row_15 : PSt := pSeq (pApp (pVar 5) (pIx (pVar 10) (pC (.int 0)))) law_drawn_row_16
def law_drawn_row_14 : PSt := pSeq (pAsg 10 (pLift (pIx (pVar 8) (p2 gMod (pCB gInt (pCons (pOp gAdd (pOp gMul (pIx (pVar 3) (pOp gAdd (pC (.int 5)) (pOp gMul (pC (.int 2)) (pVar 7)))) (pC (.int 60))) (pIx (pVar 3) (pOp gAdd (pC (.int 6)) (pOp gMul (pC (.int 2)) (pVar 7))))) pNil)) (pCB gLen (pCons (pVar 8) pNil)))))) law_drawn_row_15
def law_drawn_row_12 : PSt := pSeq (pIf (p2T gEq (pCB gLen (pCons (pVar 8) pNil)) (pC (.int 0))) law_drawn_row_13 pNext) law_drawn_row_14
def law_drawn_row_9 : PSt := pSeq (pFor (pRng1 (pCB gLen (pCons (pVar 1) pNil))) (.nm 9) law_drawn_row_10) law_drawn_row_12
def law_drawn_row_8 : PSt := pSeq (pAsg 8 (pLift (pFz (pLst pNil)))) law_drawn_row_9
def law_drawn_row_17 : PSt := pFrz 5 (pFrz 6 ((pRet (pLift (pLst (pCons (pFz (pIx (pLst (pCons (pOp gAdd (pC (.int 1)) (pIx (pVar 3) (pC (.int 3)))) (pCons (pOp gAdd (p2 gPow (pC (.int 10)) (pC (.int 30))) (pIx (pVar 3) (pC (.int 4)))) pNil))) (pCB gInt (pCons (p2 gEq (pIx (pVar 3) (pC (.int 2))) (pC (.int 5))) pNil)))) (pCons (pVar 5) (pCons (pVar 6) pNil))))))))
def law_drawn_row_7 : PSt := pSeq (pFor (pRng1 (pIx (pLst (pCons (pC (.int 3)) (pCons (pC (.int 1)) (pCons (pC (.int 2)) (pCons (pC (.int 4)) (pCons (pC (.int 5)) (pCons (pC (.int 0)) pNil))))))) (pIx (pVar 3) (pC (.int 1))))) (.nm 7) law_drawn_row_8) law_drawn_row_17
def law_drawn_row_6 : PSt := pSeq (pAsg 6 (pLift (pLst pNil))) law_drawn_row_7
def law_drawn_row_5 : PSt := pSeq (pAsg 5 (pLift (pLst (pCons (pIx (pVar 4) (p2 gMod (pCB gInt (pCons (pIx (pVar 3) (pC (.int 0))) pNil)) (pCB gLen (pCons (pVar 4) pNil)))) pNil)))) law_drawn_row_6
def law_drawn_row_3 : PSt := pSeq (pIf (p2T gEq (pCB gLen (pCons (pVar 4) pNil)) (pC (.int 0))) law_drawn_row_4 pNext) law_drawn_row_5
def law_drawn_row_2 : PSt := pSeq (pAsgF 4 (pLift (pLc (pRng1 (pVar 0)) (.nm 11) (p2T gGt (pCB gLen (pCons (pLc (pSeqI (pVar 1)) (.nm 12) (pAndT (p2T (gIn false) (pVar 11) (pVar 12)) (p2T gGt (pCB gLen (pCons (pVar 12) pNil)) (pC (.int 1)))) (pVar 12) [12]) pNil)) (pC (.int 0))) (pVar 11) [11]))) law_drawn_row_3
def law_drawn_row_1 : PSt := pSeq (pAsg 3 (pLift (pFz (pCall (spS sp_law_digits.s) (pCons (pVar 2) (pCons (pOp gAdd (pLst (pCons (pC (.int 60)) (pCons (pC (.int 6)) (pCons (pC (.int 6)) (pCons (pC (.int 9)) (pCons (p2 gPow (pC (.int 10)) (pC (.int 12))) pNil)))))) (pOp gMul (pLst (pCons (pC (.int 60)) (pCons (pC (.int 60)) pNil))) (pC (.int 5)))) pNil)))))) law_drawn_row_2
abbrev N_law_used : List Str := ["edges", "packing", "used", "row", "number", "edge"]
/-! _law_used(edges, packing); slots 0:edges 1:packing 2:used 3:row 4:number 5:edge -/
def law_used_4 : PSt := (pSetI (pLift (pOp gAdd (pIx (pVar 2) (pVar 4)) (pIx (pVar 3) (pC (.int 0))))) (pVar 2) (pVar 4))
def law_used_3 : PSt := (pFor (pSeqI (pIx (pVar 3) (pC (.int 2)))) (.nm 4) law_used_4)
def law_used_5 : PSt := (pRet (pMove 2))
def law_used_2 : PSt := pSeq (pFor (pSeqI (pVar 1)) (.nm 3) law_used_3) law_used_5
def law_used_1 : PSt := pSeq (pAsg 2 (pLift (pLc (pSeqI (pVar 0)) (.nm 5) pYes (pC (.int 0)) [5]))) law_used_2
abbrev N_law_packing : List Str := ["question", "nodes", "edges", "row", "places", "ties", "k", "used"]
/-! _law_packing(question); slots 0:question 1:nodes 2:edges 3:row 4:places 5:ties 6:k 7:used -/
def law_packing_7 : PSt := (pRet (pLift (pC (.bl false))))
def law_packing_10 : PSt := (pRet (pLift (pC (.bl false))))
def law_packing_9 : PSt := (pIf (pOrT (p2T gLt (pIx (pVar 4) (pVar 6)) (pC (.int 0))) (pOrT (p2T gGe (pIx (pVar 4) (pVar 6)) (pVar 1)) (p2T (gIn false) (pIx (pVar 4) (pVar 6)) (pSl (pVar 4) pNoPart (pPart (pVar 6)))))) law_packing_10 pNext)
def law_packing_13 : PSt := (pRet (pLift (pC (.bl false))))
def law_packing_15 : PSt := (pRet (pLift (pC (.bl false))))
def law_packing_14 : PSt := (pIf (pOrT (p2T (gIn true) (pIx (pVar 4) (pVar 6)) (pIx (pVar 2) (pIx (pVar 5) (pVar 6)))) (p2T (gIn true) (pIx (pVar 4) (pOp gAdd (pVar 6) (pC (.int 1)))) (pIx (pVar 2) (pIx (pVar 5) (pVar 6))))) law_packing_15 pNext)
def law_packing_12 : PSt := pSeq (pIf (pOrT (p2T gLt (pIx (pVar 5) (pVar 6)) (pC (.int 0))) (pOrT (p2T gGe (pIx (pVar 5) (pVar 6)) (pCB gLen (pCons (pVar 2) pNil))) (p2T (gIn false) (pIx (pVar 5) (pVar 6)) (pSl (pVar 5) pNoPart (pPart (pVar 6)))))) law_packing_13 pNext) law_packing_14
def law_packing_17 : PSt := (pRet (pLift (pC (.bl false))))
def law_packing_16 : PSt := (pIf (pOrT (p2T (gIn true) (pIx (pVar 4) (pC (.int 0))) (pIx (pVar 0) (pC (.int 3)))) (p2T (gIn true) (pIx (pVar 4) (p2 gSubI (pCB gLen (pCons (pVar 4) pNil)) (pC (.int 1)))) (pIx (pVar 0) (pC (.int 4))))) law_packing_17 pNext)
def law_packing_11 : PSt := pSeq (pFor (pRng1 (pCB gLen (pCons (pVar 5) pNil))) (.nm 6) law_packing_12) law_packing_16
def law_packing_8 : PSt := pSeq (pFor (pRng1 (pCB gLen (pCons (pVar 4) pNil))) (.nm 6) law_packing_9) law_packing_11
def law_packing_6 : PSt := pSeq (pIf (pOrT (p2T gLt (pIx (pVar 3) (pC (.int 0))) (pC (.int 1))) (pOrT (p2T gEq (pCB gLen (pCons (pVar 4) pNil)) (pC (.int 0))) (p2T gNe (pCB gLen (pCons (pVar 5) pNil)) (p2 gSubI (pCB gLen (pCons (pVar 4) pNil)) (pC (.int 1)))))) law_packing_7 pNext) law_packing_8
def law_packing_5 : PSt := pSeq (pAsg 5 (pLift (pIx (pVar 3) (pC (.int 2))))) law_packing_6
def law_packing_4 : PSt := pSeq (pAsg 4 (pLift (pIx (pVar 3) (pC (.int 1))))) law_packing_5
def law_packing_19 : PSt := (pRet (pLift (p2 gEq (pCB gLen (pCons (pLc (pRng1 (pCB gLen (pCons (pVar 2) pNil))) (.nm 6) (pAndT (p2T (gIs true) (pIx (pIx (pVar 0) (pC (.int 2))) (pVar 6)) (pC .non)) (p2T gGt (pIx (pVar 7) (pVar 6)) (pIx (pIx (pVar 0) (pC (.int 2))) (pVar 6)))) (pVar 6) [6]) pNil)) (pC (.int 0)))))
def law_packing_18 : PSt := pSeq (pAsg 7 (pLift (pFz (pCall (spS sp_law_used.s) (pCons (pVar 2) (pCons (pIx (pVar 0) (pC (.int 5))) pNil)))))) law_packing_19
def law_packing_3 : PSt := pSeq (pFor (pSeqI (pIx (pVar 0) (pC (.int 5)))) (.nm 3) law_packing_4) law_packing_18
def law_packing_2 : PSt := pSeq (pAsg 2 (pLift (pIx (pVar 0) (pC (.int 1))))) law_packing_3
def law_packing_1 : PSt := pSeq (pAsg 1 (pLift (pIx (pVar 0) (pC (.int 0))))) law_packing_2
abbrev N_law_paper : List Str := ["packing", "form", "row"]
/-! _law_paper(packing, form); slots 0:packing 1:form 2:row -/
def law_paper_2 : PSt := (pRet (pLift (pLc (pSeqI (pVar 0)) (.nm 2) pYes (pFz (pLst (pCons (pIx (pVar 2) (pC (.int 0))) (pCons (pFz (pC1 gList (pIx (pVar 2) (pC (.int 1))))) (pCons (pFz (pC1 gList (pIx (pVar 2) (pC (.int 2))))) pNil))))) [2])))
def law_paper_4 : PSt := (pRet (pLift (pC1 gTuple (pLc (pSeqI (pVar 0)) (.nm 2) pYes (pTup (pCons (pIx (pVar 2) (pC (.int 0))) (pCons (pC1 gTuple (pIx (pVar 2) (pC (.int 1)))) (pCons (pC1 gTuple (pIx (pVar 2) (pC (.int 2)))) pNil)))) [2]))))
def law_paper_6 : PSt := (pRet (pLift (pLc (pSeqI (pVar 0)) (.nm 2) pYes (pTup (pCons (pIx (pVar 2) (pC (.int 0))) (pCons (pC1 gList (pIx (pVar 2) (pC (.int 1)))) (pCons (pC1 gTuple (pIx (pVar 2) (pC (.int 2)))) pNil)))) [2])))
def law_paper_7 : PSt := (pRet (pLift (pC1 gTuple (pLc (pSeqI (pVar 0)) (.nm 2) pYes (pFz (pLst (pCons (pIx (pVar 2) (pC (.int 0))) (pCons (pC1 gTuple (pIx (pVar 2) (pC (.int 1)))) (pCons (pFz (pC1 gList (pIx (pVar 2) (pC (.int 2))))) pNil))))) [2]))))
def law_paper_5 : PSt := pSeq (pIf (p2T gEq (pVar 1) (pC (.int 2))) law_paper_6 pNext) law_paper_7
def law_paper_3 : PSt := pSeq (pIf (p2T gEq (pVar 1) (pC (.int 1))) law_paper_4 pNext) law_paper_5
def law_paper_1 : PSt := pSeq (pIf (p2T gEq (pVar 1) (pC (.int 0))) law_paper_2 pNext) law_paper_3
abbrev N_law_asked : List Str := ["question", "form", "edges", "rows", "paper", "told"]
/-! _law_asked(question, form); slots 0:question 1:form 2:edges 3:rows 4:paper 5:told -/
def law_asked_6 : PSt := (pRet (pLift (pC (.bl false))))
def law_asked_8 : PSt := (pRet (pLift (pC (.bl false))))
def law_asked_9 : PSt := (pRet (pLift (pAndV (pIsi "bool" (pVar 5)) (p2 gEq (pVar 5) (pCall (spS sp_law_packing.s) (pCons (pVar 0) pNil))))))
def law_asked_7 : PSt := pSeq (pIf (p2T gNe (pVar 4) (pCall (spS sp_law_paper.s) (pCons (pIx (pVar 0) (pC (.int 5))) (pCons (pVar 1) pNil)))) law_asked_8 pNext) law_asked_9
def law_asked_5 : PSt := pSeq (pIf (pOrT (p2T gNe (pVar 2) (pCall (spS sp_law_form.s) (pCons (pIx (pVar 0) (pC (.int 1))) (pCons (pVar 1) pNil)))) (p2T gNe (pVar 3) (pCall (spS sp_law_form.s) (pCons (pSl (pVar 0) (pPart (pC (.int 2))) (pPart (pC (.int 5)))) (pCons (p2 gSubI (pC (.int 3)) (pVar 1)) pNil))))) law_asked_6 pNext) law_asked_7
def law_asked_4 : PSt := pSeq (pAsg 5 (pLift (pFz (pCall (spS sp_is_packing.s) (pCons (pIx (pVar 0) (pC (.int 0))) (pCons (pVar 2) (pCons (pIx (pVar 3) (pC (.int 0))) (pCons (pIx (pVar 3) (pC (.int 1))) (pCons (pIx (pVar 3) (pC (.int 2))) (pCons (pVar 4) pNil)))))))))) law_asked_5
def law_asked_3 : PSt := pSeq (pAsg 4 (pLift (pFz (pCall (spS sp_law_paper.s) (pCons (pIx (pVar 0) (pC (.int 5))) (pCons (pVar 1) pNil)))))) law_asked_4
def law_asked_2 : PSt := pSeq (pAsg 3 (pLift (pFz (pCall (spS sp_law_form.s) (pCons (pSl (pVar 0) (pPart (pC (.int 2))) (pPart (pC (.int 5)))) (pCons (p2 gSubI (pC (.int 3)) (pVar 1)) pNil)))))) law_asked_3
def law_asked_1 : PSt := pSeq (pAsg 2 (pLift (pFz (pCall (spS sp_law_form.s) (pCons (pIx (pVar 0) (pC (.int 1))) (pCons (pVar 1) pNil)))))) law_asked_2
abbrev N_law_with : List Str := ["packing", "at", "amount", "places", "ties"]
/-! _law_with(packing, at, amount, places, ties); slots 0:packing 1:at 2:amount 3:places 4:ties -/
def law_with_1 : PSt := (pRet (pLift (pOp gAdd (pOp gAdd (pSl (pVar 0) pNoPart (pPart (pVar 1))) (pLst (pCons (pFz (pLst (pCons (pVar 2) (pCons (pVar 3) (pCons (pVar 4) pNil))))) pNil))) (pSl (pVar 0) (pPart (pOp gAdd (pVar 1) (pC (.int 1)))) pNoPart))))
abbrev N_law_cost : List Str := ["costs", "number", "cost"]
/-! _law_cost(costs, number, cost); slots 0:costs 1:number 2:cost -/
def law_cost_1 : PSt := (pRet (pLift (pOp gAdd (pOp gAdd (pSl (pVar 0) pNoPart (pPart (pVar 1))) (pLst (pCons (pVar 2) pNil))) (pSl (pVar 0) (pPart (pOp gAdd (pVar 1) (pC (.int 1)))) pNoPart))))
abbrev N_law_about_costs : List Str := ["base", "at", "k", "costs", "packing", "row", "tie", "used", "tight", "twice", "zeros", "ones", "papers", "j", "node", "paper"]
/-! _law_about_costs(base, at, k); slots 0:base 1:at 2:k 3:costs 4:packing 5:row 6:tie 7:used 8:tight 9:twice 10:zeros 11:ones 12:papers 13:j 14:node 15:paper -/
def law_about_costs_20 : PSt := (pRet (pLift (pLc (pSeqI (pVar 12)) (.nm 15) pYes (pFz (pLst (pCons (pIx (pVar 0) (pC (.int 0))) (pCons (pIx (pVar 0) (pC (.int 1))) (pCons (pIx (pVar 15) (pC (.int 2))) (pCons (pIx (pVar 15) (pC (.int 0))) (pCons (pIx (pVar 15) (pC (.int 1))) (pCons (pIx (pVar 15) (pC (.int 3))) pNil)))))))) [15])))
def law_about_costs_19 : PSt := pSeq (pApp (pVar 12) (pFz (pLst (pCons (pIx (pVar 0) (pC (.int 3))) (pCons (pVar 11) (pCons (pVar 3) (pCons (pVar 4) pNil))))))) law_about_costs_20
def law_about_costs_18 : PSt := pSeq (pApp (pVar 12) (pFz (pLst (pCons (pVar 10) (pCons (pIx (pVar 0) (pC (.int 4))) (pCons (pVar 3) (pCons (pVar 4) pNil))))))) law_about_costs_19
def law_about_costs_17 : PSt := pSeq (pApp (pVar 12) (pFz (pLst (pCons (pIx (pVar 0) (pC (.int 3))) (pCons (pIx (pVar 0) (pC (.int 4))) (pCons (pVar 3) (pCons (pFz (pCall (spS sp_law_with.s) (pCons (pVar 4) (pCons (pVar 1) (pCons (p2 gSubI (pC (.int 0)) (pIx (pVar 5) (pC (.int 0)))) (pCons (pIx (pVar 5) (pC (.int 1))) (pCons (pIx (pVar 5) (pC (.int 2))) pNil))))))) pNil))))))) law_about_costs_18
def law_about_costs_16 : PSt := pSeq (pApp (pVar 12) (pFz (pLst (pCons (pIx (pVar 0) (pC (.int 3))) (pCons (pIx (pVar 0) (pC (.int 4))) (pCons (pVar 3) (pCons (pFz (pCall (spS sp_law_with.s) (pCons (pVar 4) (pCons (pVar 1) (pCons (pC (.int 0)) (pCons (pIx (pVar 5) (pC (.int 1))) (pCons (pIx (pVar 5) (pC (.int 2))) pNil))))))) pNil))))))) law_about_costs_17
def law_about_costs_15 : PSt := pSeq (pApp (pVar 12) (pFz (pLst (pCons (pIx (pVar 0) (pC (.int 3))) (pCons (pIx (pVar 0) (pC (.int 4))) (pCons (pFz (pCall (spS sp_law_cost.s) (pCons (pVar 3) (pCons (pVar 6) (pCons (pC .non) pNil))))) (pCons (pFz (pOp gAdd (pVar 4) (pLst (pCons (pVar 5) (pCons (pVar 5) pNil))))) pNil))))))) law_about_costs_16
def law_about_costs_14 : PSt := pSeq (pApp (pVar 12) (pFz (pLst (pCons (pIx (pVar 0) (pC (.int 3))) (pCons (pIx (pVar 0) (pC (.int 4))) (pCons (pFz (pCall (spS sp_law_cost.s) (pCons (pVar 9) (pCons (pVar 6) (pCons (p2 gSubI (pIx (pVar 9) (pVar 6)) (pC (.int 1))) pNil))))) (pCons (pFz (pOp gAdd (pVar 4) (pLst (pCons (pVar 5) pNil)))) pNil))))))) law_about_costs_15
def law_about_costs_13 : PSt := pSeq (pApp (pVar 12) (pFz (pLst (pCons (pIx (pVar 0) (pC (.int 3))) (pCons (pIx (pVar 0) (pC (.int 4))) (pCons (pVar 9) (pCons (pFz (pOp gAdd (pVar 4) (pLst (pCons (pVar 5) pNil)))) pNil))))))) law_about_costs_14
def law_about_costs_12 : PSt := pSeq (pApp (pVar 12) (pFz (pLst (pCons (pIx (pVar 0) (pC (.int 3))) (pCons (pIx (pVar 0) (pC (.int 4))) (pCons (pFz (pCall (spS sp_law_cost.s) (pCons (pVar 8) (pCons (pVar 6) (pCons (p2 gSubI (pIx (pVar 7) (pVar 6)) (pC (.int 1))) pNil))))) (pCons (pVar 4) pNil))))))) law_about_costs_13
def law_about_costs_11 : PSt := pSeq (pApp (pVar 12) (pFz (pLst (pCons (pIx (pVar 0) (pC (.int 3))) (pCons (pIx (pVar 0) (pC (.int 4))) (pCons (pVar 8) (pCons (pVar 4) pNil))))))) law_about_costs_12
def law_about_costs_10 : PSt := pSeq (pAsg 12 (pLift (pLst (pCons (pFz (pLst (pCons (pIx (pVar 0) (pC (.int 3))) (pCons (pIx (pVar 0) (pC (.int 4))) (pCons (pVar 3) (pCons (pFz (pRev (pVar 4))) pNil)))))) (pCons (pFz (pLst (pCons (pIx (pVar 0) (pC (.int 3))) (pCons (pIx (pVar 0) (pC (.int 4))) (pCons (pVar 3) (pCons (pFz (pLst pNil)) pNil)))))) pNil))))) law_about_costs_11
def law_about_costs_9 : PSt := pSeq (pAsgF 11 (pLift (pLc (pSeqI (pIx (pVar 0) (pC (.int 4)))) (.nm 14) (p2T gNe (pVar 14) (pIx (pIx (pVar 5) (pC (.int 1))) (p2 gSubI (pCB gLen (pCons (pIx (pVar 5) (pC (.int 1))) pNil)) (pC (.int 1))))) (pVar 14) [14]))) law_about_costs_10
def law_about_costs_8 : PSt := pSeq (pAsgF 10 (pLift (pLc (pSeqI (pIx (pVar 0) (pC (.int 3)))) (.nm 14) (p2T gNe (pVar 14) (pIx (pIx (pVar 5) (pC (.int 1))) (pC (.int 0)))) (pVar 14) [14]))) law_about_costs_9
def law_about_costs_7 : PSt := pSeq (pAsgF 9 (pLift (pLc (pRng1 (pCB gLen (pCons (pVar 3) pNil))) (.nm 13) pYes (pOp gAdd (pIx (pVar 7) (pVar 13)) (pOp gMul (pIx (pVar 5) (pC (.int 0))) (pCB gInt (pCons (p2 (gIn false) (pVar 13) (pIx (pVar 5) (pC (.int 2)))) pNil)))) [13]))) law_about_costs_8
def law_about_costs_6 : PSt := pSeq (pAsgF 8 (pLift (pLc (pRng1 (pCB gLen (pCons (pVar 3) pNil))) (.nm 13) pYes (pIx (pVar 7) (pVar 13)) [13]))) law_about_costs_7
def law_about_costs_5 : PSt := pSeq (pAsg 7 (pLift (pFz (pCall (spS sp_law_used.s) (pCons (pIx (pVar 0) (pC (.int 1))) (pCons (pVar 4) pNil)))))) law_about_costs_6
def law_about_costs_4 : PSt := pSeq (pAsg 6 (pLift (pIx (pIx (pVar 5) (pC (.int 2))) (pVar 2)))) law_about_costs_5
def law_about_costs_3 : PSt := pSeq (pAsg 5 (pLift (pIx (pVar 4) (pVar 1)))) law_about_costs_4
def law_about_costs_2 : PSt := pSeq (pAsg 4 (pLift (pIx (pVar 0) (pC (.int 5))))) law_about_costs_3
def law_about_costs_1 : PSt := pSeq (pAsg 3 (pLift (pIx (pVar 0) (pC (.int 2))))) law_about_costs_2
abbrev N_law_about_rows : List Str := ["base", "at", "k", "other", "packing", "row", "places", "ties", "here", "last", "edges", "rows", "costs", "asked", "changed", "paper"]
/-! _law_about_rows(base, at, k, other); slots 0:base 1:at 2:k 3:other 4:packing 5:row 6:places 7:ties 8:here 9:last 10:edges 11:rows 12:costs 13:asked 14:changed 15:paper -/
def law_about_rows_20 : PSt := (pApp (pVar 13) (pFz (pLst (pCons (pIx (pVar 0) (pC (.int 0))) (pCons (pVar 10) (pCons (pVar 12) (pCons (pIx (pVar 0) (pC (.int 3))) (pCons (pIx (pVar 0) (pC (.int 4))) (pCons (pVar 15) pNil)))))))))
def law_about_rows_19 : PSt := pSeq (pAsg 15 (pLift (pFz (pCall (spS sp_law_with.s) (pCons (pVar 4) (pCons (pVar 1) (pCons (pIx (pVar 5) (pC (.int 0))) (pCons (pIx (pVar 14) (pC (.int 0))) (pCons (pIx (pVar 14) (pC (.int 1))) pNil))))))))) law_about_rows_20
def law_about_rows_21 : PSt := (pRet (pMove 13))
def law_about_rows_18 : PSt := pFrz 11 (pSeq (pFor (pSeqI (pVar 11)) (.nm 14) law_about_rows_19) law_about_rows_21)
def law_about_rows_17 : PSt := pSeq (pAsg 13 (pLift (pLst pNil))) law_about_rows_18
def law_about_rows_16 : PSt := pSeq (pAsg 12 (pLift (pFz (pOp gAdd (pIx (pVar 0) (pC (.int 2))) (pLst (pCons (pC .non) (pCons (pC .non) (pCons (pC .non) (pCons (pC .non) (pCons (pC .non) pNil)))))))))) law_about_rows_17
def law_about_rows_15 : PSt := pSeq (pApp (pVar 11) (pFz (pLst (pCons (pFz (pLst pNil)) (pCons (pFz (pLst pNil)) pNil))))) law_about_rows_16
def law_about_rows_14 : PSt := pSeq (pApp (pVar 11) (pFz (pLst (pCons (pFz (pOp gAdd (pOp gAdd (pSl (pVar 6) pNoPart (pPart (pOp gAdd (pVar 2) (pC (.int 1))))) (pLst (pCons (pVar 3) (pCons (pVar 8) pNil)))) (pSl (pVar 6) (pPart (pOp gAdd (pVar 2) (pC (.int 1)))) pNoPart))) (pCons (pFz (pOp gAdd (pOp gAdd (pSl (pVar 7) pNoPart (pPart (pVar 2))) (pLst (pCons (pOp gAdd (pVar 9) (pC (.int 3))) (pCons (pOp gAdd (pVar 9) (pC (.int 4))) pNil)))) (pSl (pVar 7) (pPart (pVar 2)) pNoPart))) pNil))))) law_about_rows_15
def law_about_rows_13 : PSt := pSeq (pApp (pVar 11) (pFz (pLst (pCons (pVar 6) (pCons (pFz (pOp gAdd (pOp gAdd (pSl (pVar 7) pNoPart (pPart (pVar 2))) (pLst (pCons (pOp gAdd (pIx (pVar 7) (pVar 2)) (pCB gLen (pCons (pVar 10) pNil))) pNil))) (pSl (pVar 7) (pPart (pOp gAdd (pVar 2) (pC (.int 1)))) pNoPart))) pNil))))) law_about_rows_14
def law_about_rows_12 : PSt := pSeq (pApp (pVar 11) (pFz (pLst (pCons (pVar 6) (pCons (pFz (pOp gAdd (pOp gAdd (pSl (pVar 7) pNoPart (pPart (pVar 2))) (pLst (pCons (p2 gSubI (pIx (pVar 7) (pVar 2)) (pCB gLen (pCons (pVar 10) pNil))) pNil))) (pSl (pVar 7) (pPart (pOp gAdd (pVar 2) (pC (.int 1)))) pNoPart))) pNil))))) law_about_rows_13
def law_about_rows_11 : PSt := pSeq (pApp (pVar 11) (pFz (pLst (pCons (pVar 6) (pCons (pFz (pOp gAdd (pVar 7) (pLst (pCons (pOp gAdd (pVar 9) (pC (.int 2))) pNil)))) pNil))))) law_about_rows_12
def law_about_rows_10 : PSt := pSeq (pApp (pVar 11) (pFz (pLst (pCons (pVar 6) (pCons (pFz (pSl (pVar 7) pNoPart (pPart (p2 gSubI (pCB gLen (pCons (pVar 7) pNil)) (pC (.int 1)))))) pNil))))) law_about_rows_11
def law_about_rows_9 : PSt := pSeq (pAsg 11 (pLift (pLst (pCons (pFz (pLst (pCons (pVar 6) (pCons (pFz (pOp gAdd (pOp gAdd (pSl (pVar 7) pNoPart (pPart (pVar 2))) (pLst (pCons (pVar 9) pNil))) (pSl (pVar 7) (pPart (pOp gAdd (pVar 2) (pC (.int 1)))) pNoPart))) pNil)))) (pCons (pFz (pLst (pCons (pVar 6) (pCons (pFz (pOp gAdd (pOp gAdd (pSl (pVar 7) pNoPart (pPart (pVar 2))) (pLst (pCons (pOp gAdd (pVar 9) (pC (.int 1))) pNil))) (pSl (pVar 7) (pPart (pOp gAdd (pVar 2) (pC (.int 1)))) pNoPart))) pNil)))) pNil))))) law_about_rows_10
def law_about_rows_8 : PSt := pSeq (pAsg 10 (pLift (pFz (pOp gAdd (pVar 10) (pLst (pCons (pFz (pC1 gSort (pLst (pCons (pVar 8) (pCons (pVar 3) pNil))))) (pCons (pFz (pC1 gSort (pLst (pCons (pVar 8) (pCons (pVar 3) pNil))))) pNil))))))) law_about_rows_9
def law_about_rows_7 : PSt := pSeq (pAsg 10 (pLift (pFz (pOp gAdd (pIx (pVar 0) (pC (.int 1))) (pLst (pCons (pFz (pLst (pCons (pVar 8) pNil))) (pCons (pFz (pLst (pCons (pIx (pVar 6) (pOp gAdd (pVar 2) (pC (.int 1)))) pNil))) (pCons (pFz (pLst (pCons (pIx (pVar 6) (p2 gSubI (pCB gLen (pCons (pVar 6) pNil)) (pC (.int 1)))) pNil))) pNil)))))))) law_about_rows_8
def law_about_rows_6 : PSt := pSeq (pAsg 9 (pLift (pCB gLen (pCons (pIx (pVar 0) (pC (.int 1))) pNil)))) law_about_rows_7
def law_about_rows_5 : PSt := pSeq (pAsg 8 (pLift (pIx (pVar 6) (pVar 2)))) law_about_rows_6
def law_about_rows_4 : PSt := pSeq (pAsg 7 (pLift (pIx (pVar 5) (pC (.int 2))))) law_about_rows_5
def law_about_rows_3 : PSt := pSeq (pAsg 6 (pLift (pIx (pVar 5) (pC (.int 1))))) law_about_rows_4
def law_about_rows_2 : PSt := pSeq (pAsg 5 (pLift (pIx (pVar 4) (pVar 1)))) law_about_rows_3
def law_about_rows_1 : PSt := pSeq (pAsg 4 (pLift (pIx (pVar 0) (pC (.int 5))))) law_about_rows_2
abbrev N_law_about_few : List Str := ["base", "one", "two", "three", "zeros", "ones", "single", "below", "asked", "edges", "last", "lasts", "row", "node"]
/-! _law_about_few(base, one, two, three); slots 0:base 1:one 2:two 3:three 4:zeros 5:ones 6:single 7:below 8:asked 9:edges 10:last 11:lasts 12:row 13:node -/
def law_about_few_13 : PSt := (pApp (pVar 8) (pFz (pLst (pCons (pIx (pVar 0) (pC (.int 0))) (pCons (pVar 9) (pCons (pFz (pOp gAdd (pIx (pVar 0) (pC (.int 2))) (pLst (pCons (pC (.int 14)) (pCons (pC .non) pNil))))) (pCons (pVar 4) (pCons (pVar 11) (pCons (pFz (pLst (pCons (pFz (pLst (pCons (pC (.int 7)) (pCons (pIx (pVar 12) (pC (.int 0))) (pCons (pIx (pVar 12) (pC (.int 1))) pNil))))) pNil))) pNil)))))))))
def law_about_few_12 : PSt := (pFor (pSeqI (pLst (pCons (pFz (pLst (pCons (pFz (pLst (pCons (pVar 1) (pCons (pVar 3) pNil)))) (pCons (pFz (pLst (pCons (pVar 10) pNil))) pNil)))) (pCons (pFz (pLst (pCons (pFz (pLst (pCons (pVar 1) (pCons (pVar 2) (pCons (pVar 3) pNil))))) (pCons (pFz (pLst (pCons (pVar 10) (pCons (pVar 10) pNil)))) pNil)))) (pCons (pFz (pLst (pCons (pFz (pLst (pCons (pVar 1) (pCons (pVar 2) (pCons (pVar 3) pNil))))) (pCons (pFz (pLst (pCons (pVar 10) (pCons (pOp gAdd (pVar 10) (pC (.int 1))) pNil)))) pNil)))) pNil))))) (.nm 12) law_about_few_13)
def law_about_few_11 : PSt := pSeq (pAsg 11 (pLift (pFz (pOp gAdd (pVar 5) (pLc (pSeqI (pLst (pCons (pVar 3) pNil))) (.nm 13) (p2T (gIn true) (pVar 13) (pVar 5)) (pVar 13) [13]))))) law_about_few_12
def law_about_few_10 : PSt := pSeq (pAsg 10 (pLift (pCB gLen (pCons (pIx (pVar 0) (pC (.int 1))) pNil)))) law_about_few_11
def law_about_few_9 : PSt := pSeq (pAsg 9 (pLift (pFz (pOp gAdd (pIx (pVar 0) (pC (.int 1))) (pLst (pCons (pFz (pC1 gSort (pLst (pCons (pVar 1) (pCons (pVar 2) (pCons (pVar 3) pNil)))))) (pCons (pFz (pC1 gSort (pLst (pCons (pVar 1) (pCons (pVar 2) (pCons (pVar 3) pNil)))))) pNil))))))) law_about_few_10
def law_about_few_14 : PSt := (pRet (pMove 8))
def law_about_few_8 : PSt := pSeq (pIf (p2T gGt (pIx (pVar 0) (pC (.int 0))) (pC (.int 2))) law_about_few_9 pNext) law_about_few_14
def law_about_few_7 : PSt := pSeq (pApp (pVar 8) (pFz (pLst (pCons (pIx (pVar 0) (pC (.int 0))) (pCons (pIx (pVar 0) (pC (.int 1))) (pCons (pIx (pVar 0) (pC (.int 2))) (pCons (pFz (pLc (pSeqI (pVar 4)) (.nm 13) (p2T gNe (pVar 13) (pVar 1)) (pVar 13) [13])) (pCons (pVar 5) (pCons (pVar 6) pNil))))))))) law_about_few_8
def law_about_few_6 : PSt := pSeq (pApp (pVar 8) (pFz (pLst (pCons (pIx (pVar 0) (pC (.int 0))) (pCons (pIx (pVar 0) (pC (.int 1))) (pCons (pIx (pVar 0) (pC (.int 2))) (pCons (pVar 4) (pCons (pFz (pLc (pSeqI (pVar 5)) (.nm 13) (p2T gNe (pVar 13) (pVar 1)) (pVar 13) [13])) (pCons (pVar 6) pNil))))))))) law_about_few_7
def law_about_few_5 : PSt := pSeq (pAsg 8 (pLift (pLst (pCons (pFz (pLst (pCons (pIx (pVar 0) (pC (.int 0))) (pCons (pIx (pVar 0) (pC (.int 1))) (pCons (pIx (pVar 0) (pC (.int 2))) (pCons (pVar 4) (pCons (pVar 5) (pCons (pVar 6) pNil)))))))) (pCons (pFz (pLst (pCons (pIx (pVar 0) (pC (.int 0))) (pCons (pIx (pVar 0) (pC (.int 1))) (pCons (pIx (pVar 0) (pC (.int 2))) (pCons (pVar 4) (pCons (pVar 5) (pCons (pVar 7) pNil)))))))) pNil))))) law_about_few_6
def law_about_few_4 : PSt := pSeq (pAsg 7 (pLift (pFz (pOp gAdd (pIx (pVar 0) (pC (.int 5))) (pLst (pCons (pFz (pLst (pCons (pC (.int 1)) (pCons (pFz (pLst (pCons (p2 gSubI (pVar 1) (pIx (pVar 0) (pC (.int 0)))) pNil))) (pCons (pFz (pLst pNil)) pNil))))) pNil)))))) law_about_few_5
def law_about_few_3 : PSt := pSeq (pAsg 6 (pLift (pFz (pOp gAdd (pIx (pVar 0) (pC (.int 5))) (pLst (pCons (pFz (pLst (pCons (p2 gPow (pC (.int 10)) (pC (.int 12))) (pCons (pFz (pLst (pCons (pVar 1) pNil))) (pCons (pFz (pLst pNil)) pNil))))) pNil)))))) law_about_few_4
def law_about_few_2 : PSt := pSeq (pAsg 5 (pLift (pFz (pOp gAdd (pIx (pVar 0) (pC (.int 4))) (pLc (pSeqI (pLst (pCons (pVar 1) pNil))) (.nm 13) (p2T (gIn true) (pVar 13) (pIx (pVar 0) (pC (.int 4)))) (pVar 13) [13]))))) law_about_few_3
def law_about_few_1 : PSt := pSeq (pAsg 4 (pLift (pFz (pOp gAdd (pIx (pVar 0) (pC (.int 3))) (pLc (pSeqI (pLst (pCons (pVar 1) pNil))) (.nm 13) (p2T (gIn true) (pVar 13) (pIx (pVar 0) (pC (.int 3)))) (pVar 13) [13]))))) law_about_few_2
abbrev N_law : List Str := ["script", "net", "nodes", "draw", "one", "two", "rest", "edges", "packing", "row", "used", "costs", "k", "zeros", "ones", "base", "asked", "longer", "at", "other", "question", "node", "way"]
/-! law(script); slots 0:script 1:net 2:nodes 3:draw 4:one 5:two 6:rest 7:edges 8:packing 9:row 10:used 11:costs 12:k 13:zeros 14:ones 15:base 16:asked 17:longer 18:at 19:other 20:question 21:node 22:way -/
def law_11 : PSt := (pAsg 8 (pLift (pOp gAdd (pSl (pVar 8) (pPart (pIx (pVar 3) (pC (.int 6)))) pNoPart) (pSl (pVar 8) pNoPart (pPart (pIx (pVar 3) (pC (.int 6))))))))
def law_10 : PSt := pSeq (pApp (pVar 8) (pFz (pLst (pCons (pOp gAdd (pC (.int 1)) (pIx (pVar 3) (pC (.int 5)))) (pCons (pFz (pLst (pCons (pVar 4) (pCons (pVar 5) pNil)))) (pCons (pFz (pLst (pCons (pCB gLen (pCons (pIx (pVar 1) (pC (.int 1))) pNil)) pNil))) pNil)))))) law_11
def law_13 : PSt := (pAsg 8 (pLift (pOp gMul (pVar 8) (pOp gAdd (pC (.int 2)) (pIx (pVar 3) (pC (.int 12)))))))
def law_18 : PSt := (pApp (pVar 11) (pFz (pIx (pLst (pCons (pIx (pVar 10) (pVar 12)) (pCons (pIx (pVar 10) (pVar 12)) (pCons (pOp gAdd (pIx (pVar 10) (pVar 12)) (pC (.int 1))) (pCons (pOp gAdd (pIx (pVar 10) (pVar 12)) (pIx (pVar 9) (pOp gAdd (pOp gMul (pC (.int 2)) (pVar 12)) (pC (.int 1))))) (pCons (pC .non) (pCons (pOp gAdd (pIx (pVar 10) (pVar 12)) (pC (.int 5))) pNil))))))) (pIx (pVar 9) (pOp gMul (pC (.int 2)) (pVar 12))))))
def law_25 : PSt := (pAsg 16 (pLift (pFz (pOp gAdd (pVar 16) (pCall (spS sp_law_about_few.s) (pCons (pVar 15) (pCons (pVar 4) (pCons (pVar 5) (pCons (pIx (pVar 6) (p2 gMod (pCB gInt (pCons (pIx (pVar 3) (pC (.int 3))) pNil)) (pCB gLen (pCons (pVar 6) pNil)))) pNil)))))))))
def law_27 : PSt := (pAsg 16 (pLift (pFz (pOp gAdd (pVar 16) (pCall (spS sp_law_about_few.s) (pCons (pVar 15) (pCons (pVar 4) (pCons (pVar 4) (pCons (pVar 4) pNil)))))))))
def law_33 : PSt := (pAsg 16 (pLift (pFz (pOp gAdd (pOp gAdd (pVar 16) (pCall (spS sp_law_about_costs.s) (pCons (pVar 15) (pCons (pVar 18) (pCons (pVar 12) pNil))))) (pCall (spS sp_law_about_rows.s) (pCons (pVar 15) (pCons (pVar 18) (pCons (pVar 12) (pCons (pVar 19) pNil)))))))))
def law_32 : PSt := pSeq (pAsg 19 (pLift (p2 gMod (pCB gInt (pCons (pOp gAdd (pOp gAdd (pIx (pIx (pIx (pVar 8) (pVar 18)) (pC (.int 1))) (pVar 12)) (pC (.int 1))) (p2 gMod (pIx (pVar 3) (pC (.int 10))) (p2 gSubI (pVar 2) (pC (.int 1))))) pNil)) (pVar 2)))) law_33
def law_31 : PSt := pSeq (pAsg 12 (pLift (p2 gMod (pCB gInt (pCons (pIx (pVar 3) (pC (.int 9))) pNil)) (pCB gLen (pCons (pIx (pIx (pVar 8) (pVar 18)) (pC (.int 2))) pNil))))) law_32
def law_30 : PSt := pSeq (pAsg 18 (pLift (pIx (pVar 17) (p2 gMod (pCB gInt (pCons (pIx (pVar 3) (pC (.int 8))) pNil)) (pCB gLen (pCons (pVar 17) pNil)))))) law_31
def law_36 : PSt := (pRet (pLift (pC (.bl false))))
def law_35 : PSt := (pIf (pNotT (pBl (pCall (spS sp_law_asked.s) (pCons (pVar 20) (pCons (pIx (pVar 3) (pC (.int 0))) pNil))))) law_36 pNext)
def law_37 : PSt := (pRet (pLift (pC (.bl true))))
def law_34 : PSt := pSeq (pFor (pSeqI (pOp gAdd (pVar 16) (pLst (pCons (pVar 15) pNil)))) (.nm 20) law_35) law_37
def law_29 : PSt := pSeq (pIf (p2T gGt (pCB gLen (pCons (pVar 17) pNil)) (pC (.int 0))) law_30 pNext) law_34
def law_28 : PSt := pSeq (pAsgF 17 (pLift (pLc (pRng1 (pCB gLen (pCons (pVar 8) pNil))) (.nm 12) (p2T gGt (pCB gLen (pCons (pIx (pIx (pVar 8) (pVar 12)) (pC (.int 2))) pNil)) (pC (.int 0))) (pVar 12) [12]))) law_29
def law_24 : PSt := pSeq (pIf (p2T gGt (pCB gLen (pCons (pVar 6) pNil)) (pC (.int 0))) law_25 law_27) law_28
def law_23 : PSt := pSeq (pAsg 16 (pLift (pFz (pLst (pCons (pVar 15) pNil))))) law_24
def law_22 : PSt := pFrz 11 (pFrz 8 (pSeq (pAsg 15 (pLift (pFz (pLst (pCons (pVar 2) (pCons (pVar 7) (pCons (pVar 11) (pCons (pVar 13) (pCons (pVar 14) (pCons (pVar 8) pNil)))))))))) law_23))
def law_21 : PSt := pSeq (pAsg 14 (pLift (pFz (pRev (pCall (spS sp_law_held.s) (pCons (pVar 2) (pCons (pOp gAdd (pLc (pSeqI (pVar 8)) (.nm 22) pYes (pIx (pIx (pVar 22) (pC (.int 1))) (p2 gSubI (pCB gLen (pCons (pIx (pVar 22) (pC (.int 1))) pNil)) (pC (.int 1)))) [22]) (pLst (pCons (p2 gMod (pCB gInt (pCons (pIx (pVar 3) (pC (.int 4))) pNil)) (pVar 2)) pNil))) pNil))))))) law_22
def law_20 : PSt := pSeq (pAsg 13 (pLift (pFz (pOp gAdd (pVar 13) (pSl (pVar 13) pNoPart (pPart (p2 gMod (pCB gInt (pCons (pIx (pVar 3) (pC (.int 5))) pNil)) (pC (.int 2))))))))) law_21
def law_19 : PSt := pSeq (pAsg 13 (pLift (pFz (pCall (spS sp_law_held.s) (pCons (pVar 2) (pCons (pOp gAdd (pLc (pSeqI (pVar 8)) (.nm 22) pYes (pIx (pIx (pVar 22) (pC (.int 1))) (pC (.int 0))) [22]) (pLst (pCons (p2 gMod (pCB gInt (pCons (pIx (pVar 3) (pC (.int 7))) pNil)) (pVar 2)) pNil))) pNil)))))) law_20
def law_17 : PSt := pSeq (pFor (pRng1 (pCB gLen (pCons (pVar 7) pNil))) (.nm 12) law_18) law_19
def law_16 : PSt := pSeq (pAsg 11 (pLift (pLst pNil))) law_17
def law_15 : PSt := pSeq (pAsg 10 (pLift (pFz (pCall (spS sp_law_used.s) (pCons (pVar 7) (pCons (pVar 8) pNil)))))) law_16
def law_14 : PSt := pSeq (pAsg 9 (pLift (pFz (pCall (spS sp_law_digits.s) (pCons (pCall (spS sp_law_cell.s) (pCons (pVar 0) (pCons (pC (.int 14)) pNil))) (pCons (pOp gMul (pLst (pCons (pC (.int 6)) (pCons (p2 gPow (pC (.int 10)) (pC (.int 12))) pNil))) (pCB gLen (pCons (pVar 7) pNil))) pNil)))))) law_15
def law_12 : PSt := pSeq (pIf (p2T gEq (pIx (pVar 3) (pC (.int 11))) (pC (.int 7))) law_13 pNext) law_14
def law_9 : PSt := pSeq (pIf (p2T gNe (pVar 4) (pVar 5)) law_10 pNext) law_12
def law_8 : PSt := pSeq (pAsg 8 (pLift (pLc (pRng1 (pC (.int 3))) (.nm 12) pYes (pFz (pCall (spS sp_law_drawn_row.s) (pCons (pVar 2) (pCons (pIx (pVar 1) (pC (.int 1))) (pCons (pCall (spS sp_law_cell.s) (pCons (pVar 0) (pCons (pOp gAdd (pC (.int 10)) (pVar 12)) pNil))) pNil))))) [12]))) law_9
def law_7 : PSt := pSeq (pAsg 7 (pLift (pFz (pOp gAdd (pIx (pVar 1) (pC (.int 1))) (pLst (pCons (pFz (pCall (spS sp_law_held.s) (pCons (pVar 2) (pCons (pLst (pCons (pVar 4) (pCons (pVar 5) pNil))) pNil)))) pNil)))))) law_8
def law_6 : PSt := pSeq (pAsgF 6 (pLift (pLc (pRng1 (pVar 2)) (.nm 21) (pAndT (p2T gNe (pVar 21) (pVar 4)) (p2T gNe (pVar 21) (pVar 5))) (pVar 21) [21]))) law_7
def law_5 : PSt := pSeq (pAsg 5 (pLift (p2 gMod (pCB gInt (pCons (pOp gAdd (pOp gAdd (pVar 4) (pC (.int 1))) (p2 gMod (pIx (pVar 3) (pC (.int 2))) (pCB gMax (pCons (pC (.int 1)) (pCons (p2 gSubI (pVar 2) (pC (.int 1))) pNil))))) pNil)) (pVar 2)))) law_6
def law_4 : PSt := pSeq (pAsg 4 (pLift (p2 gMod (pCB gInt (pCons (pIx (pVar 3) (pC (.int 1))) pNil)) (pVar 2)))) law_5
def law_3 : PSt := pSeq (pAsg 3 (pLift (pFz (pCall (spS sp_law_digits.s) (pCons (pCall (spS sp_law_cell.s) (pCons (pVar 0) (pCons (pC (.int 13)) pNil))) (pCons (pLst (pCons (pC (.int 4)) (pCons (pC (.int 60)) (pCons (pC (.int 60)) (pCons (pC (.int 60)) (pCons (pC (.int 60)) (pCons (pC (.int 9)) (pCons (pC (.int 4)) (pCons (pC (.int 60)) (pCons (pC (.int 600)) (pCons (pC (.int 60)) (pCons (pC (.int 60)) (pCons (pC (.int 8)) (pCons (pC (.int 30)) pNil)))))))))))))) pNil)))))) law_4
def law_2 : PSt := pSeq (pAsg 2 (pLift (pIx (pVar 1) (pC (.int 0))))) law_3
def law_1 : PSt := pSeq (pAsg 1 (pLift (pFz (pCall (spS sp_law_net.s) (pCons (pVar 0) (pCons (pC (.int 0)) pNil)))))) law_2
end K05

namespace K05
open PySem L2 PL
theorem len_law_cell : ∀ ds a, sp_law_cell.pre ds a → ds.length = 2 := fun ds a h => by
  obtain ⟨h, _⟩ := h
  rw [h]
  rfl
theorem pu_law_cell (ds a) (pre : sp_law_cell.pre ds a) : law_cell_1 { nx := fun _ => sp_law_cell.post a (.s .non), rt := fun t _ => sp_law_cell.post a t } (startP N_law_cell ds) := by
  obtain ⟨ns, c⟩ := a
  obtain ⟨e, h1, h2, h3⟩ := pre
  subst e
  simp only at h1 h2 h3
  show law_cell_1 _ [.own none (.s (.node .ro (ns.map .int))), .own none (.s (.int c)), .un, .un]
  generalize hpost : sp_law_cell.post (ns, c) = post
  have hp : ∀ z : Int, post (.s (.int z)) := fun z => by rw [← hpost]; exact ⟨z, rfl⟩
  simp [law_cell_1]
  split
  · rename_i hc
    simp [law_cell_2]
    refine ixD_int h2 (by omega) ?_
    simp 
    split
    · simp [law_cell_3]
      exact ixD_int h2 (by omega) (hp _)
    · simp [law_cell_4]
      refine ixD_int h2 (by omega) ?_
      simp [hp]
  · simp [law_cell_5, law_cell_6]
    refine loop_rel (ι := Int × Option D) (fun s => [(2, .own none (.s (.int s.1))), (3, fc s.2)]) (fun k s => 0 ≤ s.1 ∧ s.1 < 1000003) (17, none) (by decide) rfl ?_ ?_
    · rintro k d ⟨z, o⟩ hk hkl ⟨i1, i2⟩
      obtain ⟨hk', rfl⟩ := map_some hk
      simp only at i1 i2
      simp [law_cell_7]
      exact nxt (_, some _) (by simp only; omega) rfl
    · rintro ⟨z, o⟩ ⟨i1, i2⟩
      simp only at i1 i2
      simp [law_cell_8, hp]
      omega
theorem len_law_digits : ∀ ds a, sp_law_digits.pre ds a → ds.length = 2 := fun ds a h => by
  obtain ⟨h, _⟩ := h
  rw [h]
  rfl
theorem pu_law_digits (ds a) (pre : sp_law_digits.pre ds a) : law_digits_1 { nx := fun _ => sp_law_digits.post a (.s .non), rt := fun t _ => sp_law_digits.post a t } (startP N_law_digits ds) := by
  obtain ⟨c, ss⟩ := a
  obtain ⟨e, h1, h2⟩ := pre
  subst e
  simp only at h1 h2
  show law_digits_1 _ [.own none (.s (.int c)), .own none (.s (dI ss)), .un, .un, .un, .un, .un, .un]
  generalize hpost : sp_law_digits.post (c, ss) = post
  have hp : ∀ rs, Dig rs ss → post (tI rs) := fun rs h => by rw [← hpost]; exact ⟨rs, rfl, h⟩
  have hs : ∀ k (h : k < ss.length), 0 < ss[k] ∧ ss[k] ≤ 4611686018427387904 := fun k h => h2 _ (List.getElem_mem h)
  simp [law_digits_1, law_digits_2, law_digits_3]
  split
  · simp [law_digits_4, law_digits_5]
    refine loop_rel (ι := List Int × Int × Option D) (fun s => [(2, .own none (tI s.1)), (3, .own none (.s (.int s.2.1))), (4, fc s.2.2)]) (fun k s => Dig s.1 (ss.take k)) ([], _, none) Dig.nil rfl ?_ ?_
    · rintro k d ⟨rs, z, o⟩ hk hkl hi
      obtain ⟨hk', rfl⟩ := map_some hk
      simp only at hi
      have := hs k hk'
      simp [law_digits_6, law_digits_7]
      have hl := hi.1
      rw [List.length_take] at hl
      repeat refine And.intro (by omega) ?_
      refine nxt (rs ++ [z % ss[k]], z / ss[k], some _) ?_ (by simp <;> rfl)
      show Dig _ _
      rw [take_snoc hk']
      exact hi.snoc (Int.emod_nonneg _ (by omega)) (Int.emod_lt_of_pos _ (by omega))
    · rintro ⟨rs, z, o⟩ hi
      simp only [List.length_map, List.take_length] at hi
      simp [law_digits_8]
      exact hp _ hi
  · simp [law_digits_9, law_digits_10]
    refine ⟨by omega, ?_⟩
    refine loop_rel (ι := List Int × Int × Option D × Option D) (fun s => [(2, .own none (tI s.1)), (5, .own none (.s (.int s.2.1))), (6, fc s.2.2.1), (7, fc s.2.2.2)]) (fun k s => Dig s.1 (ss.take k) ∧ 0 ≤ s.2.1 ∧ s.2.1 < 2147483647) ([], _, none, none) ⟨Dig.nil, by simp only; omega⟩ rfl ?_ ?_
    · rintro k d ⟨rs, z, o, o2⟩ hk hkl ⟨hi, i1, i2⟩
      obtain ⟨rfl, hk'⟩ := rngL_some hk
      simp only at hi i1 i2
      have hk' : k < ss.length := by simpa using hk'
      have := hs k hk'
      have hl := hi.1
      rw [List.length_take] at hl
      simp [law_digits_11, law_digits_12, law_digits_13]
      repeat refine And.intro (by omega) ?_
      refine ixD_int (by omega) (by omega) ?_
      simp
      repeat refine And.intro (by omega) ?_
      rw [gi_eq hk']
      refine ⟨by omega, nxt (rs ++ [_], _, some _, some _) ?_ (by simp <;> exact ⟨rfl, rfl, rfl, rfl⟩)⟩
      refine ⟨?_, by simp only; omega, by simp only; omega⟩
      show Dig _ _
      rw [take_snoc hk']
      exact hi.snoc (Int.emod_nonneg _ (by omega)) (Int.emod_lt_of_pos _ (by omega))
    · rintro ⟨rs, z, o, o2⟩ ⟨hi, i1, i2⟩
      simp only [rngL_length] at hi
      simp at hi
      simp [law_digits_14]
      exact hp _ hi
end K05

namespace K05
open PySem L2 PL
theorem len_is_row : ∀ ds a, sp_is_row.pre ds a → ds.length = 3 := fun ds ⟨⟨b1, b2, b3, b4⟩, n, es, pl, ti⟩ ⟨h, _⟩ => by rw [h]; rfl
theorem pu_is_row (ds a) (pre : sp_is_row.pre ds a) : is_row_1 { nx := fun _ => sp_is_row.post a (.s .non), rt := fun t _ => sp_is_row.post a t } (startP N_is_row ds) := by
  obtain ⟨⟨b1, b2, b3, b4⟩, n, es, pl, ti⟩ := a
  obtain ⟨e, h1, h2, h3⟩ := pre
  subst e
  show is_row_1 _ [.own none (.s (.int n)), .own none (.s (.node (sqS b1) (es.map (eD b2)))), .own none (.s (.node .tup [.node (sqS b3) (pl.map .int), .node (sqS b4) (ti.map .int)])), .un, .un, .un, .un]
  generalize hpost : sp_is_row.post ((b1, b2, b3, b4), n, es, pl, ti) = post
  have hT : IsRow n es pl ti → post (.s (.bl true)) := fun h => by rw [← hpost]; exact ⟨true, rfl, ⟨fun _ => h, fun _ => rfl⟩⟩
  have hF : ¬ IsRow n es pl ti → post (.s (.bl false)) := fun h => by rw [← hpost]; exact ⟨false, rfl, ⟨(fun z => nomatch z), fun z => absurd z h⟩⟩
  simp [is_row_1, is_row_2]
  split
  · rename_i hp
    simp [is_row_3]
    exact hF fun z => z.1 (by rw [hp]; rfl)
  rename_i hp
  have hp0 : pl.length ≠ 0 := fun z => hp (List.length_eq_zero_iff.mp z)
  split
  rotate_left
  · rename_i hl
    simp [is_row_3]
    exact hF fun z => by have := z.2.1; omega
  rename_i hl
  have hl : ti.length + 1 = pl.length := by omega
  simp [is_row_4]
  refine loop_rel (ι := Option D) (fun s => [(5, fc s)]) (fun k s => ∀ j, j < k → 0 ≤ gi pl j ∧ gi pl j < n) none (fun j h => by omega) rfl ?_ ?_
  · intro k d o hk hkl hi
    obtain ⟨hk', rfl⟩ := map_some hk
    simp [is_row_5]
    split
    · rename_i hc
      simp [is_row_6]
      refine hF fun z => ?_
      have := z.2.2.1 k hk'
      rw [gi_eq hk'] at this
      omega
    · split
      · rename_i hc
        simp [is_row_6]
        refine hF fun z => ?_
        have := z.2.2.1 k hk'
        rw [gi_eq hk'] at this
        omega
      · refine nxt (some _) (fun j hj => ?_) rfl
        by_cases c : j = k
        · subst c
          rw [gi_eq hk']
          omega
        · exact hi j (by omega)
  · intro o hi
    rw [List.length_map] at hi
    simp [is_row_7]
    refine And.intro (by omega) ?_
    refine loop_rel (ι := Option D) (fun s => [(6, fc s)]) (fun k s => ∀ j, j < k → (0 ≤ gi ti j ∧ gi ti j < es.length) ∧ gi pl j ≠ gi pl (j + 1) ∧ gi pl j ∈ ge es (gi ti j).toNat ∧ gi pl (j + 1) ∈ ge es (gi ti j).toNat) none (fun j h => by omega) rfl ?_ ?_
    · intro k d o hk hkl hi2
      obtain ⟨rfl, hk'⟩ := rngL_some hk
      have hk' : k < ti.length := by simpa using hk'
      have no : ¬ ((0 ≤ gi ti k ∧ gi ti k < es.length) ∧ gi pl k ≠ gi pl (k + 1) ∧ gi pl k ∈ ge es (gi ti k).toNat ∧ gi pl (k + 1) ∈ ge es (gi ti k).toNat) → post (.s (.bl false)) := fun h => hF fun z => h (z.2.2.2 k hk')
      simp [is_row_8]
      refine ixD_int (by omega) (by omega) ?_
      simp
      split
      · simp [is_row_9]
        exact no fun z => by omega
      refine ixD_int (by omega) (by omega) ?_
      simp
      split
      · simp [is_row_9]
        exact no fun z => by omega
      rename_i c1 c2
      simp [is_row_10]
      refine ixD_int (by omega) (by omega) ?_
      simp
      refine ixD_int (by omega) (by omega) ?_
      have e1 : ((k : Int) + 1).toNat = k + 1 := by omega
      simp [e1]
      split
      · rename_i c3
        simp [is_row_11]
        exact no fun z => z.2.1 c3
      rename_i c3
      simp [is_row_12]
      refine ixD_int (by omega) (by omega) ?_
      simp
      refine ixD_int (by omega) (by omega) ?_
      simp
      refine ixD_lst (by omega) (by omega) ?_
      simp [eD]
      split
      rotate_left
      · rename_i c4
        simp [is_row_13]
        exact no fun z => c4 z.2.2.1
      rename_i c4
      refine ixD_int (by omega) (by omega) ?_
      simp [e1]
      refine ixD_int (by omega) (by omega) ?_
      simp
      refine ixD_lst (by omega) (by omega) ?_
      simp [eD]
      split
      rotate_left
      · rename_i c5
        simp [is_row_13]
        exact no fun z => c5 z.2.2.2
      rename_i c5
      refine nxt (some _) (fun j hj => ?_) rfl
      by_cases c : j = k
      · subst c
        exact ⟨by omega, c3, c4, c5⟩
      · exact hi2 j (by omega)
    · intro o hi2
      simp at hi2
      simp [is_row_14]
      exact hT ⟨hp0, hl, hi, hi2⟩
theorem len_has_double : ∀ ds a, sp_has_double.pre ds a → ds.length = 1 := fun ds ⟨b, ns⟩ ⟨h, _⟩ => by rw [h]; rfl
theorem pu_has_double (ds a) (pre : sp_has_double.pre ds a) : has_double_1 { nx := fun _ => sp_has_double.post a (.s .non), rt := fun t _ => sp_has_double.post a t } (startP N_has_double ds) := by
  obtain ⟨b, ns⟩ := a
  obtain ⟨e, h1⟩ := pre
  subst e
  show has_double_1 _ [.own none (.s (.node (sqS b) (ns.map .int)))]
  generalize hpost : sp_has_double.post (b, ns) = post
  have hB : ∀ c : Bool, (c = true ↔ ¬ ns.Nodup) → post (.s (.bl c)) := fun c h => by rw [← hpost]; exact ⟨c, rfl, h⟩
  simp [has_double_1]
  refine And.intro h1 fun n h2 h3 => hB _ ?_
  rw [← h3]
  simp
  constructor <;> (intro h; omega)
end K05

namespace K05
open PySem L2 PL
theorem len_law_held : ∀ ds a, sp_law_held.pre ds a → ds.length = 2 := fun ds ⟨n, cs⟩ ⟨h, _⟩ => by rw [h]; rfl
theorem pu_law_held (ds a) (pre : sp_law_held.pre ds a) : law_held_1 { nx := fun _ => sp_law_held.post a (.s .non), rt := fun t _ => sp_law_held.post a t } (startP N_law_held ds) := by
  obtain ⟨n, cs⟩ := a
  obtain ⟨e, h1, h2⟩ := pre
  subst e
  show law_held_1 _ [.own none (.s (.int n)), .own none (.s (dI cs)), .un]
  generalize hpost : sp_law_held.post (n, cs) = post
  have hp : ∀ rs, Inr n rs → post (tI rs) := fun rs h => by rw [← hpost]; exact ⟨rs, rfl, h⟩
  simp [law_held_1]
  refine And.intro (by omega) ?_
  refine lc_all (fun r => .s (.int r)) (fun r => 0 ≤ r ∧ r < n) (.inr (by simp; omega)) (fun i d Y N e hi y z => ?_) fun bs l h => ?_
  · obtain ⟨rfl, hi⟩ := rngL_some e
    simp
    split
    · exact z _ (by omega)
    · exact y
  · simp
    exact hp bs ⟨by simp at l; omega, h⟩
theorem len_law_form : ∀ ds a, sp_law_form.pre ds a → ds.length = 2 := fun ds ⟨n, cs⟩ h => by rw [show ds = _ from h]; rfl
theorem pu_law_form (ds a) (pre : sp_law_form.pre ds a) : law_form_1 { nx := fun _ => sp_law_form.post a (.s .non), rt := fun t _ => sp_law_form.post a t } (startP N_law_form ds) := by
  obtain ⟨f, xss⟩ := a
  have e : ds = [.node .lst (xss.map (.node .lst)), .int f] := pre
  subst e
  show law_form_1 _ [.own none (.s (.node .lst (xss.map (.node .lst)))), .own none (.s (.int f)), .un]
  generalize hpost : sp_law_form.post (f, xss) = post
  have hp : ∀ t, t.er = formD f xss → post t := fun t h => by rw [← hpost]; exact h
  simp [law_form_1]
  split
  · rename_i c
    simp [law_form_2]
    refine lc_map (fun xs => .s (.node .lst xs)) (.inl rfl) (fun i h Y N y => by simpa using y) ?_
    simp
    exact hp _ (by unfold formD; rw [if_pos c]; simp)
  rename_i c0
  simp [law_form_3]
  split
  · rename_i c
    simp [law_form_4]
    refine lc_map (fun xs => .s (.node .tup xs)) (.inl rfl) (fun i h Y N y => by simpa using y) ?_
    simp
    exact hp _ (by unfold formD; rw [if_neg c0, if_pos c]; simp)
  rename_i c1
  simp [law_form_5]
  split
  · rename_i c
    simp [law_form_6]
    refine lc_map (fun xs => .s (.node .tup xs)) (.inl rfl) (fun i h Y N y => by simpa using y) ?_
    simp
    exact hp _ (by unfold formD; rw [if_neg c0, if_neg c1, if_pos c]; simp)
  rename_i c2
  simp [law_form_7]
  refine lc_map (fun xs => .s (.node .lst xs)) (.inl rfl) (fun i h Y N y => by simpa using y) ?_
  simp
  exact hp _ (by unfold formD; rw [if_neg c0, if_neg c1, if_neg c2]; simp)
theorem len_law_paper : ∀ ds a, sp_law_paper.pre ds a → ds.length = 2 := fun ds ⟨n, cs⟩ h => by rw [show ds = _ from h]; rfl
theorem pu_law_paper (ds a) (pre : sp_law_paper.pre ds a) : law_paper_1 { nx := fun _ => sp_law_paper.post a (.s .non), rt := fun t _ => sp_law_paper.post a t } (startP N_law_paper ds) := by
  obtain ⟨f, rows⟩ := a
  have e : ds = [.node .lst (rows.map rowD), .int f] := pre
  subst e
  show law_paper_1 _ [.own none (.s (.node .lst (rows.map rowD))), .own none (.s (.int f)), .un]
  generalize hpost : sp_law_paper.post (f, rows) = post
  have hp : ∀ t, t.er = paperD f rows → post t := fun t h => by rw [← hpost]; exact h
  simp [law_paper_1]
  split
  · rename_i c
    simp [law_paper_2]
    refine lc_map (fun r => .s (rowF false false false r)) (.inl rfl) (fun i h Y N y => ?_) ?_
    · simpa [rowD, rowF, sqS] using y
    · simp
      exact hp _ (by unfold paperD; rw [if_pos c]; simp)
  rename_i c0
  simp [law_paper_3]
  split
  · rename_i c
    simp [law_paper_4]
    refine lc_map (fun r => .s (rowF true true true r)) (.inl rfl) (fun i h Y N y => ?_) ?_
    · simpa [rowD, rowF, sqS] using y
    · simp
      exact hp _ (by unfold paperD; rw [if_neg c0, if_pos c]; simp)
  rename_i c1
  simp [law_paper_5]
  split
  · rename_i c
    simp [law_paper_6]
    refine lc_map (fun r => .s (rowF true false true r)) (.inl rfl) (fun i h Y N y => ?_) ?_
    · simpa [rowD, rowF, sqS] using y
    · simp
      exact hp _ (by unfold paperD; rw [if_neg c0, if_neg c1, if_pos c]; simp)
  rename_i c2
  simp [law_paper_7]
  refine lc_map (fun r => .s (rowF false true false r)) (.inl rfl) (fun i h Y N y => ?_) ?_
  · simpa [rowD, rowF, sqS] using y
  · simp
    exact hp _ (by unfold paperD; rw [if_neg c0, if_neg c1, if_neg c2]; simp)
end K05

namespace K05
open PySem L2 PL
theorem addTie_len (a : Int) (u : List Int) (j : Int) : (addTie a u j).length = u.length := by unfold addTie; rw [List.length_set]
theorem addTies_len (a : Int) : ∀ (js u : List Int), (js.foldl (addTie a) u).length = u.length
  | [], u => rfl
  | j :: js, u => by rw [List.foldl_cons, addTies_len a js, addTie_len]
theorem addRow_len (u : List Int) (r : Rw) : (addRow u r).length = u.length := addTies_len r.a r.ti u
theorem addRows_len : ∀ (rs : List Rw) (u : List Int), (rs.foldl addRow u).length = u.length
  | [], u => rfl
  | r :: rs, u => by rw [List.foldl_cons, addRows_len rs, addRow_len]
theorem usedOf_len (n : Nat) (rows : List Rw) : (usedOf n rows).length = n := by unfold usedOf; rw [addRows_len, List.length_replicate]
theorem fold_take {α β : Type} (f : β → α → β) (b : β) (xs : List α) {k : Nat} (h : k < xs.length) : (xs.take (k + 1)).foldl f b = f ((xs.take k).foldl f b) xs[k] := by
  rw [take_snoc h, List.foldl_append]
  rfl
theorem usedOf_take (n : Nat) (rows : List Rw) {k : Nat} (h : k < rows.length) : usedOf n (rows.take (k + 1)) = addRow (usedOf n (rows.take k)) rows[k] := fold_take _ _ _ h
theorem zeros_eq {α : Type} (xs : List α) : (xs.map fun _ => T.s (D.int 0)) = (List.replicate xs.length (0 : Int)).map fun n => T.s (.int n) := by
  rw [List.map_replicate, List.map_const']
theorem len_law_used : ∀ ds a, sp_law_used.pre ds a → ds.length = 2 := fun ds ⟨n, cs⟩ ⟨h, _⟩ => by rw [h]; rfl
theorem pu_law_used (ds a) (pre : sp_law_used.pre ds a) : law_used_1 { nx := fun _ => sp_law_used.post a (.s .non), rt := fun t _ => sp_law_used.post a t } (startP N_law_used ds) := by
  obtain ⟨es, rows⟩ := a
  obtain ⟨e, h1⟩ := pre
  subst e
  show law_used_1 _ [.own none (.s (.node .lst (es.map dI))), .own none (.s (.node .lst (rows.map rowD))), .un, .un, .un, .un]
  generalize hpost : sp_law_used.post (es, rows) = post
  have hp : post (tI (usedOf es.length rows)) := by rw [← hpost]; exact rfl
  simp [law_used_1]
  refine lc_map (fun _ => .s (.int 0)) (.inl rfl) (fun i h Y N y => by simpa using y) ?_
  rw [zeros_eq]
  simp [law_used_2]
  refine loop_rel (ι := List Int × Option D × Option D) (fun s => [(2, .own none (tI s.1)), (3, fc s.2.1), (4, fc s.2.2)]) (fun k s => s.1 = usedOf es.length (rows.take k)) (List.replicate es.length 0, none, none) rfl (by simp) ?_ ?_
  · rintro k d ⟨us, o, o2⟩ hk hkl hi
    obtain ⟨hk', rfl⟩ := map_some hk
    simp only at hi
    have hl : us.length = es.length := by rw [hi, usedOf_len]
    simp [law_used_3, rowD]
    refine loop_rel (ι := List Int × Option D) (fun s => [(2, .own none (tI s.1)), (4, fc s.2)]) (fun j s => s.1 = (rows[k].ti.take j).foldl (addTie rows[k].a) us) (us, o2) rfl (by simp) ?_ ?_
    · rintro j d ⟨vs, o3⟩ hj hjl hi2
      obtain ⟨hj', rfl⟩ := map_some hj
      simp only at hi2
      have hv : vs.length = es.length := by rw [hi2, addTies_len, hl]
      have hr := h1 _ (List.getElem_mem hk') _ (List.getElem_mem hj')
      simp [law_used_4]
      refine ixT_int (by omega) (by omega) ?_
      simp
      rw [ixN_nat hr.1 (by omega), optK_some]
      refine nxt (addTie rows[k].a vs rows[k].ti[j], some _) ?_ (by simp [addTie, List.map_set] <;> rfl)
      show _ = _
      rw [fold_take _ _ _ hj', ← hi2]
    · rintro ⟨vs, o3⟩ hi2
      simp at hi2
      refine nxt (vs, some _, o3) ?_ (by simp <;> rfl)
      show vs = _
      rw [usedOf_take _ _ hk', ← hi, hi2]
      rfl
  · rintro ⟨us, o, o2⟩ hi
    simp at hi
    simp [law_used_5, hi]
    exact hp
theorem len_law_with : ∀ ds a, sp_law_with.pre ds a → ds.length = 5 := fun ds ⟨n, cs⟩ ⟨h, _⟩ => by rw [h]; rfl
theorem pu_law_with (ds a) (pre : sp_law_with.pre ds a) : law_with_1 { nx := fun _ => sp_law_with.post a (.s .non), rt := fun t _ => sp_law_with.post a t } (startP N_law_with ds) := by
  obtain ⟨rows, a, r⟩ := a
  obtain ⟨e, h1, h2, h3⟩ := pre
  subst e
  show law_with_1 _ [.own none (.s (.node .lst (rows.map rowD))), .own none (.s (.int a)), .own none (.s (.int r.a)), .own none (.s (dI r.pl)), .own none (.s (dI r.ti))]
  generalize hpost : sp_law_with.post (rows, a, r) = post
  have hp : ∀ rows', rows'.length = rows.length → (∀ x ∈ rows', x ∈ rows ∨ x = r) → post (tRs rows') := fun rs l h => by rw [← hpost]; exact ⟨rs, rfl, l, h⟩
  simp [law_with_1, cutL_to h1, cutL_from (show (0 : Int) ≤ a + 1 by omega)]
  have hz := sizeLine_eq
  refine And.intro (by omega) (And.intro (by omega) ?_)
  have := hp (rows.take a.toNat ++ r :: rows.drop (a + 1).toNat) (by simp; omega) (fun x hx => by
    rcases List.mem_append.mp hx with z | z
    · exact .inl (List.mem_of_mem_take z)
    · cases z with
      | head => exact .inr rfl
      | tail _ z => exact .inl (List.mem_of_mem_drop z))
  simpa [tRs, rowD, List.map_take, List.map_drop] using this
theorem len_law_cost : ∀ ds a, sp_law_cost.pre ds a → ds.length = 3 := fun ds ⟨n, cs⟩ ⟨h, _⟩ => by rw [h]; rfl
theorem optD_s (o : Option Int) : ∃ d, optD o = d := ⟨_, rfl⟩
theorem pu_law_cost (ds a) (pre : sp_law_cost.pre ds a) : law_cost_1 { nx := fun _ => sp_law_cost.post a (.s .non), rt := fun t _ => sp_law_cost.post a t } (startP N_law_cost ds) := by
  obtain ⟨cs, a, c⟩ := a
  obtain ⟨e, h1, h2, h3⟩ := pre
  subst e
  show law_cost_1 _ [.own none (.s (.node .lst (cs.map optD))), .own none (.s (.int a)), .own none (.s (optD c))]
  generalize hpost : sp_law_cost.post (cs, a, c) = post
  have hp : ∀ cs' : List (Option Int), cs'.length = cs.length → post (.node .lst (cs'.map fun c => .s (optD c))) := fun rs l => by rw [← hpost]; exact ⟨rs, rfl, l⟩
  simp [law_cost_1, cutL_to h1, cutL_from (show (0 : Int) ≤ a + 1 by omega)]
  have hz := sizeLine_eq
  refine And.intro (by omega) (And.intro (by omega) ?_)
  have := hp (cs.take a.toNat ++ c :: cs.drop (a + 1).toNat) (by simp; omega)
  simpa [List.map_take, List.map_drop] using this
end K05

namespace K05
open PySem L2 PL
theorem len_is_packing : ∀ ds a, sp_is_packing.pre ds a → ds.length = 6 := fun ds ⟨⟨b1, b2, b3, b4, b5⟩, ⟨c1, c2, c3, c4⟩, q⟩ ⟨h, _⟩ => by rw [h]; rfl
theorem pu_is_packing (ds a) (pre : sp_is_packing.pre ds a) : is_packing_1 { nx := fun _ => sp_is_packing.post a (.s .non), rt := fun t _ => sp_is_packing.post a t } (startP N_is_packing ds) := by
  obtain ⟨⟨b1, b2, b3, b4, b5⟩, ⟨c1, c2, c3, c4⟩, ⟨n, es, cs, zs, os, rows⟩⟩ := a
  obtain ⟨e, w1, w2, w3, w4⟩ := pre
  simp only at w1 w2 w3 w4
  subst e
  show is_packing_1 _ [.own none (.s (.int n)), .own none (.s (.node (sqS b1) (es.map (eD b2)))), .own none (.s (.node (sqS b3) (cs.map optD))), .own none (.s (.node (sqS b4) (zs.map .int))), .own none (.s (.node (sqS b5) (os.map .int))), .own none (.s (.node (sqS c1) (rows.map (rowF c2 c3 c4)))), .un, .un, .un, .un, .un, .un]
  generalize hpost : sp_is_packing.post ((b1, b2, b3, b4, b5), (c1, c2, c3, c4), ⟨n, es, cs, zs, os, rows⟩) = post
  have hT : IsPack ⟨n, es, cs, zs, os, rows⟩ → post (.s (.bl true)) := fun h => by rw [← hpost]; exact ⟨true, rfl, ⟨fun _ => h, fun _ => rfl⟩⟩
  have hF : ¬ IsPack ⟨n, es, cs, zs, os, rows⟩ → post (.s (.bl false)) := fun h => by rw [← hpost]; exact ⟨false, rfl, ⟨(fun z => nomatch z), fun z => absurd z h⟩⟩
  simp [is_packing_1]
  refine lc_map (fun _ => .s (.int 0)) (.inl rfl) (fun i h Y N y => by simpa using y) ?_
  rw [zeros_eq]
  simp [is_packing_2]
  refine loop_rel (ι := List Int × Option D × Option D × Option D × Option D) (fun s => [(6, .own none (tI s.1)), (7, fc s.2.1), (8, fc s.2.2.1), (9, fc s.2.2.2.1), (10, fc s.2.2.2.2)]) (fun k s => s.1 = usedOf es.length (rows.take k) ∧ ∀ r ∈ rows.take k, RowOk n es zs os r) (List.replicate es.length 0, none, none, none, none) ⟨rfl, fun _ z => by simp at z⟩ (by simp) ?_ ?_
  · rintro k d ⟨us, o7, o8, o9, o10⟩ hk hkl ⟨hi, hi2⟩
    obtain ⟨hk', rfl⟩ := map_some hk
    simp only at hi
    have hl : us.length = es.length := by rw [hi, usedOf_len]
    have no : ¬ RowOk n es zs os rows[k] → post (.s (.bl false)) := fun h => hF fun z => h (z.1 _ (List.getElem_mem hk'))
    have wf := w4 _ (List.getElem_mem hk')
    obtain ⟨wf1, wf2⟩ := wf
    simp [is_packing_3, rowF]
    split
    · rename_i c
      simp [is_packing_4]
      exact no fun z => by have := z.1; omega
    rename_i ca
    refine call_of (s := sp_is_row) ((b1, b2, c3, c4), n, es, rows[k].pl, rows[k].ti) ⟨rfl, by omega, by omega, by omega⟩ ?_
    rintro t ⟨b, rfl, hb⟩
    simp
    cases b with
    | false =>
      simp [is_packing_4]
      exact no fun z => nomatch hb.mpr z.2.1
    | true =>
      have hrow := hb.mp rfl
      simp [is_packing_5]
      refine call_of (s := sp_has_double) (c3, rows[k].pl) ⟨rfl, by omega⟩ ?_
      rintro t ⟨b, rfl, hb⟩
      simp
      cases b with
      | true =>
        simp [is_packing_6]
        exact no fun z => hb.mp rfl z.2.2.1
      | false =>
        have hp : rows[k].pl.Nodup := Classical.byContradiction fun z => nomatch hb.mpr z
        simp
        refine call_of (s := sp_has_double) (c4, rows[k].ti) ⟨rfl, by omega⟩ ?_
        rintro t ⟨b, rfl, hb⟩
        simp
        cases b with
        | true =>
          simp [is_packing_6]
          exact no fun z => hb.mp rfl z.2.2.2.1
        | false =>
          have ht : rows[k].ti.Nodup := Classical.byContradiction fun z => nomatch hb.mpr z
          have hpl := hrow.1
          simp [is_packing_7]
          refine ixD_int (by omega) (by omega) ?_
          simp
          split
          rotate_left
          · rename_i c
            simp [is_packing_8]
            exact no fun z => c z.2.2.2.2.1
          rename_i cz
          refine ixD_last (by omega) ?_
          simp
          split
          rotate_left
          · rename_i c
            simp [is_packing_8]
            exact no fun z => c z.2.2.2.2.2
          rename_i co
          have hok : RowOk n es zs os rows[k] := ⟨by omega, hrow, hp, ht, cz, co⟩
          simp [is_packing_9]
          refine loop_rel (ι := List Int × Option D) (fun s => [(6, .own none (tI s.1)), (10, fc s.2)]) (fun j s => s.1 = (rows[k].ti.take j).foldl (addTie rows[k].a) us) (us, o10) rfl (by simp) ?_ ?_
          · rintro j d ⟨vs, o3⟩ hj hjl hj2
            obtain ⟨hj', rfl⟩ := map_some hj
            simp only at hj2
            have hv : vs.length = es.length := by rw [hj2, addTies_len, hl]
            have hr := (hrow.2.2.2 j hj').1
            rw [gi_eq hj'] at hr
            simp [is_packing_10]
            refine ixT_int (by omega) (by omega) ?_
            simp
            rw [ixN_nat hr.1 (by omega), optK_some]
            refine nxt (addTie rows[k].a vs rows[k].ti[j], some _) ?_ (by simp [addTie, List.map_set] <;> rfl)
            show _ = _
            rw [fold_take _ _ _ hj', ← hj2]
          · rintro ⟨vs, o3⟩ hj2
            simp at hj2
            refine nxt (vs, some _, some _, some _, o3) ⟨?_, fun r hr => ?_⟩ (by simp <;> exact ⟨rfl, rfl, rfl⟩)
            · show vs = _
              rw [usedOf_take _ _ hk', ← hi, hj2]
              rfl
            · rcases mem_take hk' hr with z | z
              · exact hi2 r z
              · rw [z]
                exact hok
  · rintro ⟨us, o7, o8, o9, o10⟩ ⟨hi, hi2⟩
    simp at hi hi2
    have hl : us.length = es.length := by rw [hi, usedOf_len]
    simp [is_packing_11]
    refine And.intro (by omega) ?_
    refine loop_rel (ι := Option D) (fun s => [(10, fc s)]) (fun k s => ∀ j, j < k → ∀ c, cs[j]? = some (some c) → gi us j ≤ c) o10 (fun j h => by omega) (by simp) ?_ ?_
    · rintro k d o hk hkl hi3
      obtain ⟨rfl, hk'⟩ := rngL_some hk
      have hk' : k < es.length := by simpa using hk'
      simp [is_packing_12]
      refine ixD_map (by omega) (by omega) fun hh => ?_
      have hkc : k < cs.length := by omega
      simp
      have fin : (∀ c, cs[k]? = some (some c) → gi us k ≤ c) → ∀ j, j < k + 1 → ∀ c, cs[j]? = some (some c) → gi us j ≤ c := fun h j hj => by
        by_cases e : j = k
        · rw [e]; exact h
        · exact hi3 j (by omega)
      cases hc : cs[k] with
      | none =>
        simp [optD]
        exact nxt (some _) (fin fun c e => by rw [List.getElem?_eq_getElem hkc, hc] at e; cases e) rfl
      | some c =>
        simp [optD]
        refine ixT_int (by omega) (by omega) ?_
        simp
        refine ixD_map (by omega) (by omega) fun hh => ?_
        simp [hc, optD]
        split
        · rename_i hlt
          simp [is_packing_13]
          refine hF fun z => z.2 k hk' c (by rw [List.getElem?_eq_getElem hkc, hc]) ?_
          show c < gi (usedOf es.length rows) k
          rw [← hi]
          exact hlt
        · rename_i hlt
          refine nxt (some _) (fin fun c' e => ?_) rfl
          rw [List.getElem?_eq_getElem hkc, hc] at e
          cases e
          omega
    · intro o hi3
      simp at hi3
      simp [is_packing_14]
      refine hT ⟨fun r hr => hi2 r hr, fun k hk c e => ?_⟩
      show ¬ c < gi (usedOf es.length rows) k
      rw [← hi]
      have := hi3 k hk c e
      omega
end K05

namespace K05
open PySem L2 PL
theorem dec_elim {p : Prop} [Decidable p] {post : T → Prop} (h1 : p → post (.s (.bl true))) (h2 : ¬ p → post (.s (.bl false))) : post (.s (.bl (decide p))) := by
  by_cases h : p
  · rw [decide_eq_true h]
    exact h1 h
  · rw [decide_eq_false h]
    exact h2 h
theorem len_law_packing : ∀ ds a, sp_law_packing.pre ds a → ds.length = 1 := fun ds q ⟨h, _⟩ => by rw [h]; rfl
theorem pu_law_packing (ds a) (pre : sp_law_packing.pre ds a) : law_packing_1 { nx := fun _ => sp_law_packing.post a (.s .non), rt := fun t _ => sp_law_packing.post a t } (startP N_law_packing ds) := by
  obtain ⟨n, es, cs, zs, os, rows⟩ := a
  obtain ⟨e, w1, w2, w3, w4⟩ := pre
  simp only at w1 w2 w3 w4
  subst e
  show law_packing_1 _ [.own none (.s (.node .lst [.int n, .node .lst (es.map dI), .node .lst (cs.map optD), dI zs, dI os, .node .lst (rows.map rowD)])), .un, .un, .un, .un, .un, .un, .un]
  generalize hpost : sp_law_packing.post ⟨n, es, cs, zs, os, rows⟩ = post
  have hT : IsPack ⟨n, es, cs, zs, os, rows⟩ → post (.s (.bl true)) := fun h => by rw [← hpost]; exact ⟨true, rfl, ⟨fun _ => h, fun _ => rfl⟩⟩
  have hF : ¬ IsPack ⟨n, es, cs, zs, os, rows⟩ → post (.s (.bl false)) := fun h => by rw [← hpost]; exact ⟨false, rfl, ⟨(fun z => nomatch z), fun z => absurd z h⟩⟩
  simp [law_packing_1, law_packing_2, law_packing_3]
  refine loop_rel (ι := Option D × Option D × Option D × Option D) (fun s => [(3, fc s.1), (4, fc s.2.1), (5, fc s.2.2.1), (6, fc s.2.2.2)]) (fun k s => ∀ r ∈ rows.take k, RowOk n es zs os r) (none, none, none, none) (fun _ z => by simp at z) (by simp) ?_ ?_
  · rintro k d ⟨o3, o4, o5, o6⟩ hk hkl hi2
    obtain ⟨hk', rfl⟩ := map_some hk
    have no : ¬ RowOk n es zs os rows[k] → post (.s (.bl false)) := fun h => hF fun z => h (z.1 _ (List.getElem_mem hk'))
    obtain ⟨wf1, wf2⟩ := w4 _ (List.getElem_mem hk')
    generalize hr : rows[k] = r at no wf1 wf2 ⊢
    have step : RowOk n es zs os r → ∀ x ∈ rows.take (k + 1), RowOk n es zs os x := fun h x hx => by
      rcases mem_take hk' hx with z | z
      · exact hi2 x z
      · rw [z, hr]
        exact h
    clear hi2
    simp [law_packing_4, law_packing_5, law_packing_6, rowD]
    split
    · rename_i c
      simp [law_packing_7]
      exact no fun z => by have := z.1; omega
    rename_i c1
    split
    · rename_i c
      simp [law_packing_7]
      exact no fun z => z.2.1.1 (by rw [c]; rfl)
    rename_i hp
    have hp0 : r.pl.length ≠ 0 := fun z => hp (List.length_eq_zero_iff.mp z)
    split
    rotate_left
    · rename_i c
      simp [law_packing_7]
      exact no fun z => by have := z.2.1.2.1; omega
    rename_i hl
    have hl : r.ti.length + 1 = r.pl.length := by omega
    simp [law_packing_8]
    refine And.intro (by omega) ?_
    refine loop_rel (ι := Option D) (fun s => [(6, fc s)]) (fun k s => ∀ j, j < k → (0 ≤ gi r.pl j ∧ gi r.pl j < n) ∧ gi r.pl j ∉ r.pl.take j) o6 (fun j h => by omega) (by simp) ?_ ?_
    · intro j d o hj hjl hi
      obtain ⟨rfl, hj'⟩ := rngL_some hj
      have hj' : j < r.pl.length := by simpa using hj'
      have no1 : ¬ (0 ≤ gi r.pl j ∧ gi r.pl j < n) → post (.s (.bl false)) := fun h => no fun z => h (z.2.1.2.2.1 j hj')
      simp [law_packing_9]
      refine ixD_int (by omega) (by omega) ?_
      simp
      split
      · simp [law_packing_10]
        exact no1 (by omega)
      refine ixD_int (by omega) (by omega) ?_
      simp
      split
      · simp [law_packing_10]
        exact no1 (by omega)
      refine ixD_int (by omega) (by omega) ?_
      simp [cutL_to (show (0 : Int) ≤ (j : Int) by omega)]
      split
      · rename_i c
        simp [law_packing_10]
        exact no fun z => (nodup_take r.pl).mp z.2.2.1 j hj' c
      · rename_i c1 c2 c3
        refine nxt (some _) (fun i hi' => ?_) rfl
        by_cases e : i = j
        · subst e
          exact ⟨by omega, c3⟩
        · exact hi i (by omega)
    · intro o hi
      rw [rngL_length] at hi
      have hi : ∀ j, j < r.pl.length → (0 ≤ gi r.pl j ∧ gi r.pl j < n) ∧ gi r.pl j ∉ r.pl.take j := fun j hj => hi j (by simpa using hj)
      have hnd : r.pl.Nodup := (nodup_take r.pl).mpr fun j hj => (hi j hj).2
      simp [law_packing_11]
      refine And.intro (by omega) ?_
      refine loop_rel (ι := Option D) (fun s => [(6, fc s)]) (fun k s => ∀ j, j < k → (0 ≤ gi r.ti j ∧ gi r.ti j < es.length) ∧ gi r.ti j ∉ r.ti.take j ∧ gi r.pl j ∈ ge es (gi r.ti j).toNat ∧ gi r.pl (j + 1) ∈ ge es (gi r.ti j).toNat) o (fun j h => by omega) (by simp) ?_ ?_
      · intro j d o hj hjl hi2
        obtain ⟨rfl, hj'⟩ := rngL_some hj
        have hj' : j < r.ti.length := by simpa using hj'
        have no1 : ¬ (0 ≤ gi r.ti j ∧ gi r.ti j < es.length) → post (.s (.bl false)) := fun h => no fun z => h (z.2.1.2.2.2 j hj').1
        simp [law_packing_12]
        refine ixD_int (by omega) (by omega) ?_
        simp
        split
        · simp [law_packing_13]
          exact no1 (by omega)
        refine ixD_int (by omega) (by omega) ?_
        simp
        split
        · simp [law_packing_13]
          exact no1 (by omega)
        refine ixD_int (by omega) (by omega) ?_
        simp [cutL_to (show (0 : Int) ≤ (j : Int) by omega)]
        split
        · rename_i c
          simp [law_packing_13]
          exact no fun z => (nodup_take r.ti).mp z.2.2.2.1 j hj' c
        rename_i c1 c2 c3
        have e1 : ((j : Int) + 1).toNat = j + 1 := by omega
        simp [law_packing_14]
        refine ixD_int (by omega) (by omega) ?_
        simp
        refine ixD_int (by omega) (by omega) ?_
        simp
        refine ixD_lst (by omega) (by omega) ?_
        simp
        split
        rotate_left
        · rename_i c4
          simp [law_packing_15]
          exact no fun z => c4 (z.2.1.2.2.2 j hj').2.2.1
        rename_i c4
        refine ixD_int (by omega) (by omega) ?_
        simp [e1]
        refine ixD_int (by omega) (by omega) ?_
        simp
        refine ixD_lst (by omega) (by omega) ?_
        simp
        split
        rotate_left
        · rename_i c5
          simp [law_packing_15]
          exact no fun z => c5 (z.2.1.2.2.2 j hj').2.2.2
        rename_i c5
        refine nxt (some _) (fun i hi' => ?_) rfl
        by_cases e : i = j
        · subst e
          exact ⟨by omega, c3, c4, c5⟩
        · exact hi2 i (by omega)
      · intro o hi2
        rw [rngL_length] at hi2
        have hi2 : ∀ j, j < r.ti.length → (0 ≤ gi r.ti j ∧ gi r.ti j < es.length) ∧ gi r.ti j ∉ r.ti.take j ∧ gi r.pl j ∈ ge es (gi r.ti j).toNat ∧ gi r.pl (j + 1) ∈ ge es (gi r.ti j).toNat := fun j hj => hi2 j (by simpa using hj)
        have hnt : r.ti.Nodup := (nodup_take r.ti).mpr fun j hj => (hi2 j hj).2.1
        simp [law_packing_16]
        refine ixD_int (by omega) (by omega) ?_
        simp
        split
        rotate_left
        · rename_i c
          simp [law_packing_17]
          exact no fun z => c z.2.2.2.2.1
        rename_i cz
        refine ixD_int (by omega) (by omega) ?_
        have e2 : ((r.pl.length : Int) - 1).toNat = r.pl.length - 1 := by omega
        simp [e2]
        split
        rotate_left
        · rename_i c
          simp [law_packing_17]
          exact no fun z => c z.2.2.2.2.2
        rename_i co
        refine nxt (some _, some _, some _, o) (step ⟨by omega, ⟨hp0, hl, fun j hj => (hi j hj).1, fun j hj => ⟨(hi2 j hj).1, ?_, (hi2 j hj).2.2⟩⟩, hnd, hnt, cz, co⟩) (by simp <;> exact ⟨rfl, rfl, rfl⟩)
        rw [gi_eq (by omega), gi_eq (by omega)]
        exact List.pairwise_iff_getElem.mp hnd j (j + 1) (by omega) (by omega) (by omega)
  · rintro ⟨o3, o4, o5, o6⟩ hi2
    simp at hi2
    simp [law_packing_18]
    refine call_of (s := sp_law_used) (es, rows) ⟨rfl, fun r hr j hj => ?_⟩ ?_
    · obtain ⟨i, hi, e⟩ := List.getElem_of_mem hj
      have := ((hi2 r hr).2.1.2.2.2 i hi).1
      rw [gi_eq hi, e] at this
      exact this
    rintro t rfl
    simp [law_packing_19]
    refine And.intro (by omega) ?_
    refine lc_rngF (fun i => match cs[i]? with
      | some (some c) => decide (c < gi (usedOf es.length rows) i)
      | _ => false) (fun i => .s (.int i)) (by omega) (fun i hi Y N y z => ?_) ?_
    · have hkc : i < cs.length := by omega
      have hl := usedOf_len es.length rows
      rw [List.getElem?_eq_getElem hkc] at y z
      simp
      refine ixD_map (by omega) (by omega) fun hh => ?_
      simp
      cases hc : cs[i] with
      | none =>
        rw [hc] at y z
        simp [optD]
        exact z rfl
      | some c =>
        rw [hc] at y z
        simp [optD]
        refine ixD_int (by omega) (by omega) ?_
        simp
        refine ixD_map (by omega) (by omega) fun hh => ?_
        simp [hc, optD]
        split
        · rename_i hlt
          exact y (decide_eq_true hlt)
        · rename_i hlt
          exact z (decide_eq_false hlt)
    · simp
      refine dec_elim (fun hd => ?_) fun hd => ?_
      · refine hT ⟨hi2, fun k hk c e => ?_⟩
        have hd := hd k hk
        have e : cs[k]? = some (some c) := e
        rw [e] at hd
        exact of_decide_eq_false hd
      · refine hF fun z => hd fun a ha => ?_
        have := z.2 a ha
        split
        · rename_i c e
          exact decide_eq_false (this c e)
        · rfl
end K05

namespace K05
open PySem L2 PL
theorem form_es (f : Int) (es : List (List Int)) : ∃ b1 b2, formD f (es.map fun e => e.map D.int) = .node (sqS b1) (es.map (eD b2)) := by
  unfold formD
  split
  · exact ⟨false, false, by rw [List.map_map]; rfl⟩
  split
  · exact ⟨true, true, by rw [List.map_map]; rfl⟩
  split
  · exact ⟨false, true, by rw [List.map_map]; rfl⟩
  · exact ⟨true, false, by rw [List.map_map]; rfl⟩
theorem form_3 (f : Int) (x y z : List D) : ∃ b1 b2, formD f [x, y, z] = .node (sqS b1) [.node (sqS b2) x, .node (sqS b2) y, .node (sqS b2) z] := by
  unfold formD
  split
  · exact ⟨false, false, rfl⟩
  split
  · exact ⟨true, true, rfl⟩
  split
  · exact ⟨false, true, rfl⟩
  · exact ⟨true, false, rfl⟩
theorem paper_row (f : Int) (rows : List Rw) : ∃ c1 c2 c3 c4, paperD f rows = .node (sqS c1) (rows.map (rowF c2 c3 c4)) := by
  unfold paperD
  split
  · exact ⟨false, false, false, false, rfl⟩
  split
  · exact ⟨true, true, true, true, rfl⟩
  split
  · exact ⟨false, true, false, true, rfl⟩
  · exact ⟨true, false, true, false, rfl⟩
theorem shp_es (b : Bool) {k : Nat} (e : List Int) : shp (k + 1) (eD b e) = true := by simp [eD]
theorem shp_row (b c d : Bool) {k : Nat} (r : Rw) : shp (k + 2) (rowF b c d r) = true := by simp [rowF]
theorem shp_opt {k : Nat} (o : Option Int) : shp k (optD o) = true := by cases o <;> simp [optD]
theorem len_law_asked : ∀ ds a, sp_law_asked.pre ds a → ds.length = 2 := fun ds ⟨q, f⟩ ⟨h, _⟩ => by rw [h]; rfl
theorem pu_law_asked (ds a) (pre : sp_law_asked.pre ds a) : law_asked_1 { nx := fun _ => sp_law_asked.post a (.s .non), rt := fun t _ => sp_law_asked.post a t } (startP N_law_asked ds) := by
  obtain ⟨⟨n, es, cs, zs, os, rows⟩, f⟩ := a
  obtain ⟨e, wf, f0, f3⟩ := pre
  subst e
  show law_asked_1 _ [.own none (.s (.node .lst [.int n, .node .lst (es.map dI), .node .lst (cs.map optD), dI zs, dI os, .node .lst (rows.map rowD)])), .own none (.s (.int f)), .un, .un, .un, .un]
  generalize hpost : sp_law_asked.post (⟨n, es, cs, zs, os, rows⟩, f) = post
  have hp : post (.s (.bl true)) := by rw [← hpost]; exact rfl
  obtain ⟨b1, b2, q1⟩ := form_es f es
  obtain ⟨b3, b4, q2⟩ := form_3 (3 - f) (cs.map optD) (zs.map .int) (os.map .int)
  obtain ⟨c1, c2, c3, c4, q3⟩ := paper_row f rows
  have s1 : ∀ k, shpL (k + 1) (es.map (eD b2)) = true := fun k => shpL_map (fun e => shp_es b2 e) es
  have s2 : ∀ k, shpL k (cs.map optD) = true := fun k => shpL_map shp_opt cs
  have s3 : ∀ k, shpL (k + 2) (rows.map (rowF c2 c3 c4)) = true := fun k => shpL_map (fun r => shp_row c2 c3 c4 r) rows
  have r1 : deq (.node (sqS b1) (es.map (eD b2))) (.node (sqS b1) (es.map (eD b2))) = true := deq_refl _ 3 (by rw [shp_q]; exact s1 1)
  have r2 : deq (.node (sqS b3) [.node (sqS b4) (cs.map optD), .node (sqS b4) (zs.map .int), .node (sqS b4) (os.map .int)]) (.node (sqS b3) [.node (sqS b4) (cs.map optD), .node (sqS b4) (zs.map .int), .node (sqS b4) (os.map .int)]) = true := deq_refl _ 3 (by simp [s2])
  have r3 : deq (.node (sqS c1) (rows.map (rowF c2 c3 c4))) (.node (sqS c1) (rows.map (rowF c2 c3 c4))) = true := deq_refl _ 4 (by rw [shp_q]; exact s3 1)
  have m1 : es.map dI = (es.map fun e => e.map D.int).map (D.node .lst) := by rw [List.map_map]; rfl
  have formE : ∀ K : T → Prop, (∀ t, t.er = .node (sqS b1) (es.map (eD b2)) → K t) → callP sp_law_form [.node .lst (es.map dI), .int f] K := fun K h =>
    call_of (s := sp_law_form) (f, es.map fun e => e.map D.int) (by show _ = _; rw [m1]) fun t ht => h t (by rw [← q1]; exact ht)
  have formR : ∀ K : T → Prop, (∀ t, t.er = .node (sqS b3) [.node (sqS b4) (cs.map optD), .node (sqS b4) (zs.map .int), .node (sqS b4) (os.map .int)] → K t) → callP sp_law_form [.node .lst [.node .lst (cs.map optD), dI zs, dI os], .int (3 - f)] K := fun K h =>
    call_of (s := sp_law_form) (3 - f, [cs.map optD, zs.map .int, os.map .int]) rfl fun t ht => h t (by rw [← q2]; exact ht)
  have paperP : ∀ K : T → Prop, (∀ t, t.er = .node (sqS c1) (rows.map (rowF c2 c3 c4)) → K t) → callP sp_law_paper [.node .lst (rows.map rowD), .int f] K := fun K h =>
    call_of (s := sp_law_paper) (f, rows) rfl fun t ht => h t (by rw [← q3]; exact ht)
  have mid : ∀ a b c d e f : T, cutL [a, b, c, d, e, f] (some 2) (some 5) = [c, d, e] := fun _ _ _ _ _ _ => rfl
  simp [law_asked_1]
  refine formE _ fun t1 e1 => ?_
  simp [law_asked_2, e1, mid]
  refine formR _ fun t2 e2 => ?_
  simp [law_asked_3, e2]
  refine paperP _ fun t3 e3 => ?_
  simp [law_asked_4, e3]
  refine call_of (s := sp_is_packing) ((b1, b2, b4, b4, b4), (c1, c2, c3, c4), ⟨n, es, cs, zs, os, rows⟩) ⟨rfl, wf⟩ ?_
  rintro t ⟨b, rfl, hb⟩
  simp [law_asked_5]
  refine formE _ fun t4 e4 => ?_
  simp [e4, s1, r1, mid]
  refine formR _ fun t5 e5 => ?_
  simp [e5, s2, r2]
  simp [law_asked_7]
  refine paperP _ fun t6 e6 => ?_
  simp [e6, s3, r3]
  simp [law_asked_9, tyD, isiT]
  refine call_of (s := sp_law_packing) ⟨n, es, cs, zs, os, rows⟩ ⟨rfl, wf⟩ ?_
  rintro t ⟨c, rfl, hc⟩
  simp
  have : b = c := by
    cases b <;> cases c <;> first | rfl | exact absurd (hb.mpr (hc.mp rfl)) (by decide) | exact absurd (hc.mpr (hb.mp rfl)) (by decide)
  rw [this]
  simpa using hp
end K05

namespace K05
open PySem L2 PL
theorem len_law_small_edge : ∀ ds a, sp_law_small_edge.pre ds a → ds.length = 4 := fun ds ⟨z, n, es, b⟩ ⟨h, _⟩ => by rw [h]; rfl
abbrev pows : List Int := [1, 2, 4, 8, 16, 32, 64, 128, 256]
theorem pows_ok : ∀ m : Nat, m < 9 → 1 ≤ gi pows m ∧ gi pows m ≤ 256 := by decide
theorem pows_ok1 : ∀ m : Nat, m < 9 → 1 ≤ m → 2 ≤ gi pows m := by decide
theorem pu_law_small_edge (ds a) (pre : sp_law_small_edge.pre ds a) : law_small_edge_1 { nx := fun _ => sp_law_small_edge.post a (.s .non), rt := fun t _ => sp_law_small_edge.post a t } (startP N_law_small_edge ds) := by
  obtain ⟨z, n, es, b⟩ := a
  obtain ⟨e, h1, h2, h3, h4⟩ := pre
  subst e
  show law_small_edge_1 _ [.own none (.s (.int z)), .own none (.s (.int n)), .own none (.s (.node .lst (es.map dI))), .own none (.s (.bl b)), .un, .un, .un, .un, .un, .un]
  generalize hpost : sp_law_small_edge.post (z, n, es, b) = post
  have hp : ∀ rs, Inr n rs → post (tI rs) := fun rs h => by rw [← hpost]; exact ⟨rs, rfl, h⟩
  have held : ∀ (cs : List Int) (K : T → Prop), (∀ rs, Inr n rs → K (tI rs)) → callP sp_law_held [.int n, dI cs] K := fun cs K h => call_of (s := sp_law_held) (n, cs) ⟨rfl, by omega, by omega⟩ fun t ⟨rs, e, q⟩ => by rw [e]; exact h rs q
  have pw : ∀ (m : Int) (P : Nat → D → Prop), 0 ≤ m → m < 9 → P m.toNat (.int (gi pows m.toNat)) → ixD [.int 1, .int 2, .int 4, .int 8, .int 16, .int 32, .int 64, .int 128, .int 256] m P := fun m P a b h => ixD_int (ns := pows) a b h
  simp [law_small_edge_1, law_small_edge_2]
  refine pw _ _ (by omega) (by omega) ?_
  have g1 := pows_ok n.toNat (by omega)
  have g2 := pows_ok1 n.toNat (by omega) (by omega)
  simp
  refine call_of (s := sp_law_digits) (z, [12, n, n, 2, gi pows n.toNat - 1, 9]) ⟨rfl, by simp, fun s hs => by simp at hs; omega⟩ ?_
  rintro t ⟨rs, rfl, hd⟩
  have hl : rs.length = 6 := hd.1
  have d0 : 0 ≤ gi rs 0 ∧ gi rs 0 < 12 := hd.2 0 (by simp)
  have d1 : 0 ≤ gi rs 1 ∧ gi rs 1 < n := hd.2 1 (by simp)
  have d2 : 0 ≤ gi rs 2 ∧ gi rs 2 < n := hd.2 2 (by simp)
  have d3 : 0 ≤ gi rs 3 ∧ gi rs 3 < 2 := hd.2 3 (by simp)
  have d4 : 0 ≤ gi rs 4 ∧ gi rs 4 < gi pows n.toNat - 1 := hd.2 4 (by simp)
  have d5 : 0 ≤ gi rs 5 ∧ gi rs 5 < 9 := hd.2 5 (by simp)
  simp [law_small_edge_3]
  refine ixD_int (by omega) (by omega) ?_
  simp [law_small_edge_4]
  refine ixD_int (by omega) (by omega) ?_
  simp
  refine And.intro (by split <;> omega) (And.intro (by omega) ?_)
  simp [law_small_edge_5]
  refine ixD_int (by omega) (by omega) ?_
  simp [law_small_edge_6]
  have main : ∀ two near : Int, law_small_edge_8 { nx := fun _ => post (.s .non), rt := fun t _ => post t } [.own none (.s (.int z)), .own none (.s (.int n)), .own none (.s (.node .lst (es.map dI))), .own none (.s (.bl b)), .own none (.s (.node .lst [.int 1, .int 2, .int 4, .int 8, .int 16, .int 32, .int 64, .int 128, .int 256])), .own none (.s (dI rs)), .own none (.s (.int (gi rs 1))), .own none (.s (.int two)), .own none (.s (.int near)), .un] := fun two near => by
    simp [law_small_edge_8]
    refine ixD_int (by omega) (by omega) ?_
    simp
    split
    · simp [law_small_edge_9]
      exact hp [gi rs 1] ⟨by simp, fun x hx => by cases List.mem_singleton.mp hx; omega⟩
    simp [law_small_edge_10]
    refine ixD_int (by omega) (by omega) ?_
    simp
    have r12 : law_small_edge_12 { nx := fun _ => post (.s .non), rt := fun t _ => post t } [.own none (.s (.int z)), .own none (.s (.int n)), .own none (.s (.node .lst (es.map dI))), .own none (.s (.bl b)), .own none (.s (.node .lst [.int 1, .int 2, .int 4, .int 8, .int 16, .int 32, .int 64, .int 128, .int 256])), .own none (.s (dI rs)), .own none (.s (.int (gi rs 1))), .own none (.s (.int two)), .own none (.s (.int near)), .un] := by
      simp [law_small_edge_12]
      refine ixD_int (by omega) (by omega) ?_
      simp
      split
      · simp [law_small_edge_13]
        refine And.intro (by omega) ?_
        refine lc_all (fun r => .s (.int r)) (fun r => 0 ≤ r ∧ r < n) (.inr (by simp; omega)) (fun i d Y N e hi y z => ?_) fun bs l h => ?_
        · obtain ⟨rfl, hi⟩ := rngL_some e
          have g3 := pows_ok i (by omega)
          simp
          refine ixD_int (by omega) (by omega) ?_
          simp
          refine pw _ _ (by omega) (by omega) ?_
          simp
          refine And.intro (by omega) ?_
          split
          · exact z _ (by omega)
          · exact y
        · simp
          exact hp bs ⟨by simp at l; omega, h⟩
      simp [law_small_edge_14]
      refine ixD_int (by omega) (by omega) ?_
      simp
      split
      · simp [law_small_edge_15]
        exact held [_, _, _] _ fun rs h => by simpa using hp rs h
      simp [law_small_edge_16]
      refine ixD_int (by omega) (by omega) ?_
      simp
      split
      · split
        · simp [law_small_edge_17]
          exact held [_, _] _ fun rs h => by simpa using hp rs h
        · simp [law_small_edge_18]
          exact held [_, _] _ fun rs h => by simpa using hp rs h
      · simp [law_small_edge_18]
        exact held [_, _] _ fun rs h => by simpa using hp rs h
    split
    · split
      · rename_i c
        have hes : 0 < es.length := by simpa using c
        simp [law_small_edge_11]
        refine ixD_int (by omega) (by omega) ?_
        simp
        refine And.intro hes ?_
        refine ixD_lst (f := dI) (Int.emod_nonneg _ (by omega)) (Int.emod_lt_of_pos _ (by omega)) ?_
        simp
        refine hp _ ?_
        have hk : (gi rs 5 % (es.length : Int)).toNat < es.length := by
          have := Int.emod_lt_of_pos (gi rs 5) (show (0 : Int) < es.length by omega)
          have := Int.emod_nonneg (gi rs 5) (show (es.length : Int) ≠ 0 by omega)
          omega
        rw [ge_eq hk]
        exact h4 _ (List.getElem_mem hk)
      · exact r12
    · exact r12
  split
  · simp [law_small_edge_7]
    refine ixD_int (by omega) (by omega) ?_
    simp
    exact main _ _
  · exact main _ _
end K05

namespace K05
open PySem L2 PL
theorem len_law_wide_edges : ∀ ds a, sp_law_wide_edges.pre ds a → ds.length = 2 := fun ds ⟨z, n⟩ ⟨h, _⟩ => by rw [h]; rfl
theorem five7 : ∀ j : Nat, j < 7 → gi (List.replicate 7 [8, 60, 60, 60, 5]).flatten (5 * j) = 8 ∧ gi (List.replicate 7 [8, 60, 60, 60, 5]).flatten (5 * j + 1) = 60 ∧ gi (List.replicate 7 [8, 60, 60, 60, 5]).flatten (5 * j + 2) = 60 ∧ gi (List.replicate 7 [8, 60, 60, 60, 5]).flatten (5 * j + 3) = 60 ∧ gi (List.replicate 7 [8, 60, 60, 60, 5]).flatten (5 * j + 4) = 5 := by decide
theorem pu_law_wide_edges (ds a) (pre : sp_law_wide_edges.pre ds a) : law_wide_edges_1 { nx := fun _ => sp_law_wide_edges.post a (.s .non), rt := fun t _ => sp_law_wide_edges.post a t } (startP N_law_wide_edges ds) := by
  obtain ⟨z, n⟩ := a
  obtain ⟨e, h1, h2⟩ := pre
  subst e
  show law_wide_edges_1 _ [.own none (.s (.int z)), .own none (.s (.int n)), .un, .un, .un, .un, .un, .un, .un, .un, .un]
  generalize hpost : sp_law_wide_edges.post (z, n) = post
  have hp : ∀ es : List (List Int), es.length = 7 → (∀ e ∈ es, Inr n e) → post (tE es) := fun es l h => by rw [← hpost]; exact ⟨es, rfl, l, h⟩
  have held : ∀ (cs : List Int) (K : T → Prop), (∀ rs, Inr n rs → K (tI rs)) → callP sp_law_held [.int n, dI cs] K := fun cs K h => call_of (s := sp_law_held) (n, cs) ⟨rfl, by omega, by omega⟩ fun t ⟨rs, e, q⟩ => by rw [e]; exact h rs q
  have hz := sizeLine_eq
  simp [law_wide_edges_1]
  refine And.intro (by omega) ?_
  refine call_of (s := sp_law_digits) (z, (List.replicate 7 [8, 60, 60, 60, 5]).flatten) ⟨rfl, by simp, fun s hs => by simp at hs; omega⟩ ?_
  rintro t ⟨rs, rfl, hd⟩
  have hl : rs.length = 35 := hd.1
  simp [law_wide_edges_2, law_wide_edges_3]
  refine loop_rel (ι := List (List Int) × Option D × Option D × Option D × Option D × Option D × Option T) (fun s => [(3, .own none (tE s.1)), (4, fc s.2.1), (5, fc s.2.2.1), (6, fc s.2.2.2.1), (7, fc s.2.2.2.2.1), (8, fc s.2.2.2.2.2.1), (9, ft s.2.2.2.2.2.2)])
    (fun k s => s.1.length = k ∧ ∀ e ∈ s.1, Inr n e) ([], none, none, none, none, none, none) ⟨rfl, fun _ z => nomatch z⟩ (by simp [tE]) ?_ ?_
  · rintro k d ⟨es, o4, o5, o6, o7, o8, o9⟩ hk hkl ⟨i1, i2⟩
    obtain ⟨rfl, hk'⟩ := rngL_some hk
    have hk' : k < 7 := by simpa using hk'
    simp only at i1 i2
    obtain ⟨f0, f1, f2, f3, f4⟩ := five7 k hk'
    have d0 := hd.2 (5 * k) (by simp; omega)
    have d1 := hd.2 (5 * k + 1) (by simp; omega)
    have d2 := hd.2 (5 * k + 2) (by simp; omega)
    have d3 := hd.2 (5 * k + 3) (by simp; omega)
    have d4 := hd.2 (5 * k + 4) (by simp; omega)
    simp only at d0 d1 d2 d3 d4
    rw [f0] at d0
    rw [f1] at d1
    rw [f2] at d2
    rw [f3] at d3
    rw [f4] at d4
    have e0 : (5 * (k : Int)).toNat = 5 * k := by omega
    have e1 : (5 * (k : Int) + 1).toNat = 5 * k + 1 := by omega
    have e2 : (5 * (k : Int) + 2).toNat = 5 * k + 2 := by omega
    have e3 : (5 * (k : Int) + 3).toNat = 5 * k + 3 := by omega
    have e4 : (5 * (k : Int) + 4).toNat = 5 * k + 4 := by omega
    simp [law_wide_edges_4]
    refine ixD_int (by omega) (by omega) ?_
    simp [e1]
    refine And.intro (by omega) ?_
    simp [law_wide_edges_5]
    refine ixD_int (by omega) (by omega) ?_
    simp [e4, law_wide_edges_6]
    refine ixD_int (by omega) (by omega) ?_
    simp [e2]
    refine And.intro (by omega) ?_
    simp [law_wide_edges_7]
    refine ixD_int (by omega) (by omega) ?_
    simp [e3]
    refine And.intro (by omega) ?_
    simp [law_wide_edges_8, law_wide_edges_9, law_wide_edges_10]
    refine ixD_int (by omega) (by omega) ?_
    simp [e4]
    refine And.intro (by omega) ?_
    refine lc_all (fun r : Int => .s (.int r)) (fun _ => True) (.inr (by simp; omega)) (fun i d Y N e hi y z => ?_) fun bs l h => ?_
    · obtain ⟨rfl, hi⟩ := rngL_some e
      simp
      exact z _ trivial
    simp [law_wide_edges_11]
    refine And.intro (by omega) ?_
    refine ixD_int (by omega) (by omega) ?_
    simp [e0]
    generalize gi rs (5 * k + 1) % n = one
    generalize (if one + 1 + gi rs (5 * k + 4) < n - 1 then one + 1 + gi rs (5 * k + 4) else n - 1) = near
    generalize gi rs (5 * k + 2) % n = two
    generalize gi rs (5 * k + 3) % n = three
    refine ixT_map (n := gi rs (5 * k)) (f := fun cs : List Int => T.s (dI cs)) (xs := [[one], [one, near], [one, near], [one, near], [one, two], [one, near, near - 1], [one, near, two, three], bs]) (by omega) (by simp; omega) fun hh => ?_
    simp only [kidR_s, datsR_va, datsR_nil, Option.map_some, optK_some, er_s]
    refine held _ _ fun rs' hr => ?_
    simp
    refine nxt (es ++ [rs'], some _, some _, some _, some _, some _, some _) ⟨by simp [i1], fun e he => ?_⟩ (by simp <;> exact ⟨rfl, rfl, rfl, rfl, rfl, rfl⟩)
    rcases List.mem_append.mp he with z | z
    · exact i2 e z
    · rw [List.mem_singleton.mp z]
      exact hr
  · rintro ⟨es, o4, o5, o6, o7, o8, o9⟩ ⟨i1, i2⟩
    simp at i1 i2
    simp [law_wide_edges_12]
    exact hp es i1 i2
end K05

namespace K05
open PySem L2 PL
theorem imm_ints : ∀ ns : List Int, immT (tI ns) = true := by
  intro ns
  show immTs (ns.map fun n => T.s (.int n)) = true
  induction ns with
  | nil => rfl
  | cons n ns ih =>
    show (immT (.s (.int n)) && immTs (ns.map fun n => T.s (.int n))) = true
    rw [ih]
    rfl
theorem gSort_pairs {ts : List T} {ps : List (Int × Int)} {k : T → Prop} (e : ts = ps.map pairT) (h : ∀ ps' : List (Int × Int), ps'.Perm ps → k (.node .lst (ps'.map pairT))) : gSort (.node .lst ts) k := .inr ⟨ps, e, h⟩
theorem gSort_ints {ts : List T} {ns : List Int} {k : T → Prop} (e : ts = ns.map fun n => T.s (.int n)) (h : ∀ ns' : List Int, ns'.Perm ns → k (tI ns')) : gSort (.node .lst ts) k := .inl ⟨ns, e, fun ns' p _ => h ns' p⟩
abbrev netN : List Int := [8, 7, 6, 5, 4, 3, 2, 1, 8, 7, 8, 6, 8, 7, 8, 6]
abbrev netM : List Int := [9, 8, 7, 6, 5, 4, 3, 2, 1, 0, 9, 8, 7, 9, 8, 6, 9, 8, 7, 9, 8, 7, 9, 9]
theorem netN_ok : ∀ m : Nat, m < 16 → 1 ≤ gi netN m ∧ gi netN m ≤ 8 := by decide
theorem netM_ok : ∀ m : Nat, m < 24 → 0 ≤ gi netM m ∧ gi netM m ≤ 9 := by decide
theorem len_law_net : ∀ ds a, sp_law_net.pre ds a → ds.length = 2 := fun ds ⟨z, n⟩ ⟨h, _⟩ => by rw [h]; rfl
theorem pu_law_net (ds a) (pre : sp_law_net.pre ds a) : law_net_1 { nx := fun _ => sp_law_net.post a (.s .non), rt := fun t _ => sp_law_net.post a t } (startP N_law_net ds) := by
  obtain ⟨ns, a⟩ := a
  obtain ⟨e, h1, h2, h3⟩ := pre
  subst e
  show law_net_1 _ [.own none (.s (.node .ro (ns.map .int))), .own none (.s (.int a)), .un, .un, .un, .un, .un, .un, .un, .un, .un]
  generalize hpost : sp_law_net.post (ns, a) = post
  have hp : ∀ (n : Int) (es : List (List Int)), 1 ≤ n → n ≤ 100 → es.length ≤ 63 → (∀ e ∈ es, Inr n e) → post (.node .lst [.s (.int n), .s (.node .lst (es.map dI))]) := fun n es a b c d => by rw [← hpost]; exact ⟨n, es, rfl, a, b, c, d⟩
  have cell : ∀ (k : Int) (K : T → Prop), 0 ≤ k → k ≤ 1000 → (∀ z, K (.s (.int z))) → callP sp_law_cell [.node .ro (ns.map .int), .int k] K := fun k K a b h => call_of (s := sp_law_cell) (ns, k) ⟨rfl, h1, a, b⟩ fun t ⟨z, e⟩ => by rw [e]; exact h z
  have hz := sizeLine_eq
  simp [law_net_1]
  refine cell _ _ h2 (by omega) fun z => ?_
  simp
  refine And.intro (by omega) (And.intro (by omega) ?_)
  refine call_of (s := sp_law_digits) (z, [16, 24, 8, 52, 56, 3] ++ List.replicate 60 1000) ⟨rfl, by simp, fun s hs => by simp at hs; omega⟩ ?_
  rintro t ⟨rs, rfl, hd⟩
  have hl : rs.length = 66 := hd.1
  have d0 : 0 ≤ gi rs 0 ∧ gi rs 0 < 16 := hd.2 0 (by simp)
  have d1 : 0 ≤ gi rs 1 ∧ gi rs 1 < 24 := hd.2 1 (by simp)
  have d2 : 0 ≤ gi rs 2 ∧ gi rs 2 < 8 := hd.2 2 (by simp)
  have d3 : 0 ≤ gi rs 3 ∧ gi rs 3 < 52 := hd.2 3 (by simp)
  have d4 : 0 ≤ gi rs 4 ∧ gi rs 4 < 56 := hd.2 4 (by simp)
  clear hd
  simp [law_net_2]
  refine ixD_int (by omega) (by omega) ?_
  simp
  refine ixT_int (ns := netN) (n := gi rs 0) (by omega) (by simp; omega) ?_
  have q0 := netN_ok (gi rs 0).toNat (by omega)
  generalize gi netN (gi rs 0).toNat = n0 at q0 ⊢
  simp [law_net_3]
  refine ixD_int (by omega) (by omega) ?_
  simp
  refine ixT_int (ns := netM) (n := gi rs 1) (by omega) (by simp; omega) ?_
  have q1 := netM_ok (gi rs 1).toNat (by omega)
  generalize gi netM (gi rs 1).toNat = many at q1 ⊢
  simp [law_net_4, law_net_5]
  refine ixD_int (by omega) (by omega) ?_
  simp
  have main : ∀ (n : Int) (es : List (List Int)) (o : Option D), 1 ≤ n → n ≤ 60 → es.length ≤ 63 → (∀ e ∈ es, Inr n e) →
      law_net_13 { nx := fun _ => post (.s .non), rt := fun t _ => post t } [.own none (.s (.node .ro (ns.map .int))), .own none (.s (.int a)), .own none (.s (dI rs)), .own none (.s (.int n)), .own none (.s (.int many)), .own none (tE es), fc o, .un, .un, .un, .un] := fun n es o n1 n2 l he => by
    simp [law_net_13]
    refine And.intro (by omega) ?_
    refine lc_rng (fun i => pairT (gi rs (6 + i), (i : Int))) (by omega) (fun i hi Y N y => ?_) ?_
    · have e6 : ((6 : Int) + (i : Int)).toNat = 6 + i := by omega
      simp
      refine ixD_int (by omega) (by omega) ?_
      simp [e6]
      exact y
    simp
    refine gSort_pairs (ps := (List.range n.toNat).map fun i => (gi rs (6 + i), (i : Int))) (by rw [List.map_map]; rfl) fun ps hps => ?_
    have hpl : ps.length = n.toNat := by rw [hps.length_eq]; simp
    simp
    refine lc_map (f := fun p : Int × Int => D.node .tup [.int p.1, .int p.2]) (fun p => .s (.int p.2)) (.inl rfl) (fun i h Y N y => by simpa using y) ?_
    have eo : (ps.map fun p : Int × Int => T.s (D.int p.2)) = (ps.map (·.2)).map fun n => T.s (.int n) := by rw [List.map_map]; rfl
    rw [eo]
    generalize hos : ps.map (·.2) = os
    have hol : os.length = n.toNat := by rw [← hos, List.length_map, hpl]
    have hor : ∀ x ∈ os, 0 ≤ x ∧ x < n := fun x hx => by
      rw [← hos] at hx
      obtain ⟨p, hp1, rfl⟩ := List.mem_map.mp hx
      obtain ⟨i, hi, rfl⟩ := List.mem_map.mp (hps.mem_iff.mp hp1)
      have := List.mem_range.mp hi
      exact ⟨by simp, by simp; omega⟩
    simp [law_net_14]
    refine lc_all (fun e : List Int => .s (dI e)) (Inr n) (.inl rfl) (fun i d Y N e hi y z => ?_) fun bs l h => ?_
    · obtain ⟨hi', rfl⟩ := map_some e
      have hin := he _ (List.getElem_mem hi')
      simp
      refine lc_map (fun x => .s (.int (gi os x.toNat))) (.inl rfl) (fun j hj Y N y => ?_) ?_
      · have := hin.2 _ (List.getElem_mem hj)
        simp
        refine ixD_int (by omega) (by omega) ?_
        simpa using y
      simp
      refine gSort_ints (ns := (es[i]).map fun x => gi os x.toNat) (by rw [List.map_map]; rfl) fun ns' hn => ?_
      simp
      refine z _ ⟨by rw [hn.length_eq, List.length_map]; exact hin.1, fun x hx => ?_⟩
      obtain ⟨y, hy, rfl⟩ := List.mem_map.mp (hn.mem_iff.mp hx)
      have := hin.2 y hy
      exact hor _ (gi_mem (by omega))
    · simp
      exact hp n bs n1 (by omega) (by simp at l; omega) h
  split
  · simp [law_net_6]
    refine ixD_int (by omega) (by omega) ?_
    simp [law_net_7]
    refine loop_rel (ι := List (List Int) × Option D) (fun s => [(5, .own none (tE s.1)), (6, fc s.2)]) (fun k s => s.1.length = 7 * k ∧ ∀ e ∈ s.1, Inr (9 + gi rs 3) e) ([], none) ⟨rfl, fun _ z => nomatch z⟩ (by simp) ?_ ?_
    · rintro k d ⟨es, o⟩ hk hkl ⟨i1, i2⟩
      obtain ⟨rfl, hk'⟩ := rngL_some hk
      have hk' : k < 9 := by simpa using hk'
      simp only at i1 i2
      simp [law_net_8]
      refine cell _ _ (by omega) (by omega) fun z => ?_
      simp
      refine call_of (s := sp_law_wide_edges) (z, 9 + gi rs 3) ⟨rfl, by omega, by omega⟩ ?_
      rintro t ⟨es', rfl, l', h'⟩
      simp
      refine And.intro (by omega) ?_
      refine nxt (es ++ es', some _) ⟨by simp [i1, l']; omega, fun e he => ?_⟩ (by simp <;> rfl)
      rcases List.mem_append.mp he with z | z
      · exact i2 e z
      · exact h' e z
    · rintro ⟨es, o⟩ ⟨i1, i2⟩
      simp at i1 i2
      simp [law_net_9]
      refine ixD_int (by omega) (by omega) ?_
      simp [cutL_to (show (0 : Int) ≤ 8 + gi rs 4 by omega)]
      have := main (9 + gi rs 3) (es.take (8 + gi rs 4).toNat) o (by omega) (by omega) (by rw [List.length_take]; omega) fun e he => i2 e (List.mem_of_mem_take he)
      rw [← List.map_take]
      exact this
  · simp [law_net_11]
    refine And.intro (by omega) ?_
    refine loop_rel (ι := List (List Int) × Option D) (fun s => [(5, .own none (tE s.1)), (6, fc s.2)]) (fun k s => s.1.length = k ∧ ∀ e ∈ s.1, Inr n0 e) ([], none) ⟨rfl, fun _ z => nomatch z⟩ (by simp) ?_ ?_
    · rintro k d ⟨es, o⟩ hk hkl ⟨i1, i2⟩
      obtain ⟨rfl, hk'⟩ := rngL_some hk
      have hk' : k < many.toNat := by simpa using hk'
      simp only at i1 i2
      simp [law_net_12]
      refine And.intro (by omega) ?_
      refine cell _ _ (by omega) (by omega) fun z => ?_
      simp
      refine ixD_int (by omega) (by omega) ?_
      simp
      refine call_of (s := sp_law_small_edge) (z, n0, es, decide (gi rs 5 = 0)) ⟨rfl, by omega, by omega, by omega, i2⟩ ?_
      rintro t ⟨e', rfl, h'⟩
      simp [imm_ints]
      refine nxt (es ++ [e'], some _) ⟨by simp [i1], fun e he => ?_⟩ (by simp <;> rfl)
      rcases List.mem_append.mp he with z | z
      · exact i2 e z
      · rw [List.mem_singleton.mp z]
        exact h'
    · rintro ⟨es, o⟩ ⟨i1, i2⟩
      simp at i1 i2
      simp
      exact main n0 es o (by omega) (by omega) (by omega) i2
end K05

namespace K05
open PySem L2 PL
theorem ixD_mapM {α : Type} {f : α → D} {xs : List α} {n : Int} {P : Nat → D → Prop} (h0 : 0 ≤ n) (h1 : n < (xs.length : Int)) (q : ∀ x ∈ xs, P n.toNat (f x)) : ixD (xs.map f) n P := ixD_map h0 h1 fun h => q _ (List.getElem_mem h)
/-- what may be drawn: a node, an edge -/
def Opts (m : Nat) (n b0 : Int) (ps : List (Int × Int)) : Prop := ∀ p ∈ ps, (0 ≤ p.2 ∧ p.2 < (m : Int)) ∧ (0 ≤ p.1 ∧ p.1 < n) ∧ p.1 ≠ b0
def optsD (ps : List (Int × Int)) : D := .node .lst (ps.map fun p => .node .tup [.int p.1, .int p.2])
theorem len_law_drawn_row : ∀ ds a, sp_law_drawn_row.pre ds a → ds.length = 3 := fun ds ⟨z, n⟩ ⟨h, _⟩ => by rw [h]; rfl
abbrev steps : List Int := [3, 1, 2, 4, 5, 0]
theorem steps_ok : ∀ m : Nat, m < 6 → 0 ≤ gi steps m ∧ gi steps m ≤ 5 := by decide
theorem draw_ok : ∀ j : Nat, j < 15 → 1 ≤ gi ([60, 6, 6, 9, 1000000000000] ++ (List.replicate 5 [60, 60]).flatten) j := by decide
theorem pu_law_drawn_row (ds a) (pre : sp_law_drawn_row.pre ds a) : law_drawn_row_1 { nx := fun _ => sp_law_drawn_row.post a (.s .non), rt := fun t _ => sp_law_drawn_row.post a t } (startP N_law_drawn_row ds) := by
  obtain ⟨n, es, z⟩ := a
  obtain ⟨e, h1, h2, h3, h4⟩ := pre
  subst e
  show law_drawn_row_1 _ [.own none (.s (.int n)), .own none (.s (.node .lst (es.map dI))), .own none (.s (.int z)), .un, .un, .un, .un, .un, .un, .un, .un, .un, .un]
  generalize hpost : sp_law_drawn_row.post (n, es, z) = post
  have hp : ∀ r : Rw, DR es.length r → (0 < r.ti.length → 2 ≤ n) → post (tR r) := fun r h h' => by rw [← hpost]; exact ⟨r, rfl, h, h'⟩
  have hz := sizeLine_eq
  simp [law_drawn_row_1]
  refine And.intro (by omega) (And.intro (by omega) ?_)
  refine call_of (s := sp_law_digits) (z, [60, 6, 6, 9, 1000000000000] ++ (List.replicate 5 [60, 60]).flatten) ⟨rfl, by simp, fun s hs => by simp at hs; omega⟩ ?_
  rintro t ⟨rs, rfl, hd⟩
  have hl : rs.length = 15 := hd.1
  have d0 : 0 ≤ gi rs 0 ∧ gi rs 0 < 60 := hd.2 0 (by simp)
  have d1 : 0 ≤ gi rs 1 ∧ gi rs 1 < 6 := hd.2 1 (by simp)
  have dn : ∀ j : Nat, j < 15 → 0 ≤ gi rs j := fun j hj => (hd.2 j (by simp; omega)).1
  clear hd
  simp [law_drawn_row_2]
  refine And.intro (by omega) ?_
  refine lc_all (fun r : Int => .s (.int r)) (fun r => 0 ≤ r ∧ r < n) (.inr (by simp; omega)) (fun i d Y N e hi y z' => ?_) fun bs l h => ?_
  · obtain ⟨rfl, hi⟩ := rngL_some e
    simp
    refine lc_all (fun e : List Int => .s (dI e)) (fun _ => True) (.inl rfl) (fun i d Y N e hi y z' => ?_) fun bs l h => ?_
    · obtain ⟨hi', rfl⟩ := map_some e
      simp
      split
      · split
        · exact z' _ trivial
        · exact y
      · exact y
    · simp
      split
      · exact z' _ (by omega)
      · exact y
  simp [law_drawn_row_3]
  have fin : ∀ (pl ti bs : List Int) (c7 c8 c9 c10 : Cell), pl.length = ti.length + 1 → ti.length ≤ 10 → (∀ j ∈ ti, 0 ≤ j ∧ j < (es.length : Int)) → (0 < ti.length → 2 ≤ n) → law_drawn_row_17 { nx := fun _ => post (.s .non), rt := fun t _ => post t } [.own none (.s (.int n)), .own none (.s (.node .lst (es.map dI))), .own none (.s (.int z)), .own none (.s (dI rs)), .own none (.s (dI bs)), .own none (tI pl), .own none (tI ti), c7, c8, c9, c10, .un, .un] := fun pl ti bs c7 c8 c9 c10 a b c d => by
    simp [law_drawn_row_17]
    refine ixD_int (by omega) (by omega) ?_
    simp
    refine ixD_int (by omega) (by omega) ?_
    simp
    refine ixD_int (by omega) (by omega) ?_
    simp
    split
    · simp
      exact hp ⟨_, pl, ti⟩ ⟨a, b, c⟩ d
    · simp
      exact hp ⟨_, pl, ti⟩ ⟨a, b, c⟩ d
  have main : ∀ bs : List Int, 0 < bs.length → (∀ x ∈ bs, 0 ≤ x ∧ x < n) → law_drawn_row_5 { nx := fun _ => post (.s .non), rt := fun t _ => post t } [.own none (.s (.int n)), .own none (.s (.node .lst (es.map dI))), .own none (.s (.int z)), .own none (.s (dI rs)), .own none (.s (dI bs)), .un, .un, .un, .un, .un, .un, .un, .un] := fun bs hb hbr => by
    simp [law_drawn_row_5]
    refine ixD_int (by omega) (by omega) ?_
    simp
    refine And.intro (by omega) ?_
    refine ixD_int (Int.emod_nonneg _ (by omega)) (Int.emod_lt_of_pos _ (by omega)) ?_
    simp [law_drawn_row_6, law_drawn_row_7]
    refine ixD_int (by omega) (by omega) ?_
    simp
    refine ixT_int (ns := steps) (n := gi rs 1) (by omega) (by simp; omega) ?_
    have q1 := steps_ok (gi rs 1).toNat (by omega)
    generalize gi steps (gi rs 1).toNat = m at q1 ⊢
    have hb0 : 0 ≤ gi bs (gi rs 0 % (bs.length : Int)).toNat ∧ gi bs (gi rs 0 % (bs.length : Int)).toNat < n := hbr _ (gi_mem (by
      have := Int.emod_lt_of_pos (gi rs 0) (show (0 : Int) < bs.length by omega)
      have := Int.emod_nonneg (gi rs 0) (show (bs.length : Int) ≠ 0 by omega)
      omega))
    generalize gi bs _ = b0 at hb0 ⊢
    simp
    refine And.intro (by omega) ?_
    refine loop_rel (ι := List Int × List Int × Option D × Option D × Option D × Option D) (fun s => [(5, .own none (tI s.1)), (6, .own none (tI s.2.1)), (7, fc s.2.2.1), (8, fc s.2.2.2.1), (9, fc s.2.2.2.2.1), (10, fc s.2.2.2.2.2)])
      (fun k s => s.1.length = k + 1 ∧ s.2.1.length = k ∧ (∀ j ∈ s.2.1, 0 ≤ j ∧ j < (es.length : Int)) ∧ b0 ∈ s.1 ∧ (0 < s.2.1.length → 2 ≤ n)) ([b0], [], none, none, none, none) ⟨rfl, rfl, (fun _ z => nomatch z), .head _, fun z => nomatch z⟩ (by simp) ?_ ?_
    · rintro k d ⟨pl, ti, o7, o8, o9, o10⟩ hk hkl ⟨i1, i2, i3, i4, i5⟩
      obtain ⟨rfl, hk'⟩ := rngL_some hk
      have hk' : k < m.toNat := by simpa using hk'
      simp only at i1 i2 i3 i4 i5
      simp [law_drawn_row_8, law_drawn_row_9]
      refine And.intro (by omega) ?_
      refine loop_rel (ι := List (Int × Int) × Option D) (fun s => [(8, .own none (.s (optsD s.1))), (9, fc s.2)]) (fun j s => s.1.length ≤ j * 1000 ∧ Opts es.length n b0 s.1) ([], o9) ⟨by simp, fun _ z => nomatch z⟩ (by simp [optsD]) ?_ ?_
      · rintro j d ⟨ps, o⟩ hj hjl ⟨j1, j2⟩
        obtain ⟨rfl, hj'⟩ := rngL_some hj
        have hj' : j < es.length := by simpa using hj'
        have stay : Nxt (fun s : List (Int × Int) × Option D => [(8, Cell.own none (.s (optsD s.1))), (9, fc s.2)]) (fun j s => s.1.length ≤ j * 1000 ∧ Opts es.length n b0 s.1) (j + 1) [.own none (.s (.int n)), .own none (.s (.node .lst (es.map dI))), .own none (.s (.int z)), .own none (.s (dI rs)), .own none (.s (dI bs)), .own none (tI pl), .own none (tI ti), .own none (.s (.int (k : Int))), .own none (.s (.node .lst [])), fc o9, fc o10, .un, .un]
            [.own none (.s (.int n)), .own none (.s (.node .lst (es.map dI))), .own none (.s (.int z)), .own none (.s (dI rs)), .own none (.s (dI bs)), .own none (tI pl), .own none (tI ti), .own none (.s (.int (k : Int))), .own none (.s (optsD ps)), .own none (.s (.int (j : Int))), fc o10, .un, .un] :=
          nxt (ps, some _) ⟨by simp only at j1 ⊢; omega, j2⟩ rfl
        simp [law_drawn_row_10]
        refine ixT_int (by omega) (by omega) ?_
        simp
        refine ixD_lst (f := dI) (by omega) (by omega) ?_
        simp
        split
        · split
          · exact stay
          · simp [law_drawn_row_11]
            refine ixD_lst (f := dI) (by omega) (by omega) ?_
            have hin : Inr n (ge es j) := by rw [ge_eq hj']; exact h4 _ (List.getElem_mem hj')
            have hlen := hin.1
            simp
            refine lc_filter (fun x => !decide (x ∈ pl)) (fun x => pairT (x, (j : Int))) (.inl rfl) (fun i hi Y N y z' => ?_) ?_
            · simp
              split
              · rename_i c
                exact z' (by simp [c])
              · rename_i c
                exact y (by simp [c])
            · simp [optsD]
              have hfl : ((ge es j).filter fun x => !decide (x ∈ pl)).length ≤ 100 := Nat.le_trans (List.length_filter_le _ _) hlen
              simp only at j1 j2
              refine And.intro (by omega) ?_
              refine nxt (ps ++ ((ge es j).filter fun x => !decide (x ∈ pl)).map fun x => (x, (j : Int)), some _) ⟨by simp; omega, fun p hp => ?_⟩ (by simp [optsD, pairT] <;> rfl)
              rcases List.mem_append.mp hp with z | z
              · exact j2 p z
              · obtain ⟨x, hx, rfl⟩ := List.mem_map.mp z
                obtain ⟨hx1, hx2⟩ := List.mem_filter.mp hx
                refine ⟨⟨by simp, by simp; omega⟩, hin.2 x hx1, fun e => ?_⟩
                have e : x = b0 := e
                rw [e] at hx2
                simp [i4] at hx2
        · exact stay
      · rintro ⟨ps, o⟩ ⟨j1, j2⟩
        simp at j1
        have j2 : Opts es.length n b0 ps := j2
        simp [law_drawn_row_12, optsD]
        split
        · simp [law_drawn_row_13]
          exact fin pl ti bs _ _ _ _ (by omega) (by omega) i3 i5
        rename_i c
        have hpl : 0 < ps.length := List.length_pos_iff.mpr c
        have e5 : ((5 : Int) + 2 * (k : Int)).toNat = 5 + 2 * k := by omega
        have e6 : ((6 : Int) + 2 * (k : Int)).toNat = 6 + 2 * k := by omega
        simp [law_drawn_row_14]
        refine ixD_int (by omega) (by omega) ?_
        simp [e5]
        refine ixD_int (by omega) (by omega) ?_
        simp [e6]
        refine And.intro (by omega) ?_
        refine ixD_mapM (Int.emod_nonneg _ (by omega)) (Int.emod_lt_of_pos _ (by omega)) fun p hj => ?_
        have hj := j2 p hj
        simp [law_drawn_row_15, law_drawn_row_16]
        refine And.intro (by omega) (And.intro (by omega) ?_)
        refine nxt (pl ++ [p.1], ti ++ [p.2], some _, some _, o, some _) ⟨by simp [i1], by simp [i2], fun x hx => ?_, List.mem_append_left _ i4, fun _ => by have := hj.2; omega⟩ (by simp <;> exact ⟨rfl, rfl, rfl⟩)
        rcases List.mem_append.mp hx with z | z
        · exact i3 x z
        · rw [List.mem_singleton.mp z]
          exact hj.1
    · rintro ⟨pl, ti, o7, o8, o9, o10⟩ ⟨i1, i2, i3, i4, i5⟩
      simp at i1 i2
      exact fin pl ti bs _ _ _ _ (by omega) (by omega) i3 i5
  split
  · simp [law_drawn_row_4]
    refine ixD_int (by omega) (by omega) ?_
    simp
    refine And.intro (by omega) ?_
    exact main [_] (by simp) fun x hx => by rw [List.mem_singleton.mp hx]; exact ⟨Int.emod_nonneg _ (by omega), Int.emod_lt_of_pos _ (by omega)⟩
  · rename_i c
    exact main bs (by simpa using List.length_pos_iff.mpr c) h
end K05

namespace K05
open PySem L2 PL
theorem optD_some {x : Int} : optD (some x) = .int x := rfl
structure Pp where
  zs : List Int
  os : List Int
  cs : List (Option Int)
  rows : List Rw
def ppD (p : Pp) : D := .node .lst [dI p.zs, dI p.os, .node .lst (p.cs.map optD), .node .lst (p.rows.map rowD)]
def WFP (m : Nat) (p : Pp) : Prop := p.cs.length = m ∧ p.rows.length ≤ 1000 ∧ ∀ r ∈ p.rows, WFR r
theorem dr_wf {m : Nat} {r : Rw} (h : DR m r) : WFR r := ⟨by have := h.1; have := h.2.1; omega, by have := h.2.1; omega⟩
theorem some_opt (ts : List Int) : (ts.map D.int) = (ts.map some).map optD := by rw [List.map_map]; rfl
theorem len_law_about_costs : ∀ ds a, sp_law_about_costs.pre ds a → ds.length = 3 := fun ds ⟨z, n⟩ ⟨h, _⟩ => by rw [h]; rfl
theorem pu_law_about_costs (ds a) (pre : sp_law_about_costs.pre ds a) : law_about_costs_1 { nx := fun _ => sp_law_about_costs.post a (.s .non), rt := fun t _ => sp_law_about_costs.post a t } (startP N_law_about_costs ds) := by
  obtain ⟨⟨n, es, cs, zs, os, rows⟩, a, k⟩ := a
  obtain ⟨e, ⟨w1, w2, w3, w4⟩, a0, k0, r, hr, k1⟩ := pre
  simp only at w1 w2 w3 w4 hr
  subst e
  show law_about_costs_1 _ [.own none (.s (.node .lst [.int n, .node .lst (es.map dI), .node .lst (cs.map optD), dI zs, dI os, .node .lst (rows.map rowD)])), .own none (.s (.int a)), .own none (.s (.int k)), .un, .un, .un, .un, .un, .un, .un, .un, .un, .un, .un, .un, .un]
  generalize hpost : sp_law_about_costs.post (⟨n, es, cs, zs, os, rows⟩, a, k) = post
  have hp : ∀ qs : List Qn, qs.length ≤ 20 → (∀ q ∈ qs, WFQ q) → post (tQs qs) := fun qs a b => by rw [← hpost]; exact ⟨qs, rfl, a, b⟩
  have hz := sizeLine_eq
  obtain ⟨ha, hre⟩ := List.getElem?_eq_some_iff.mp hr
  have hmem : r ∈ rows := List.mem_of_getElem? hr
  have dr := w4 r hmem
  have wr : ∀ x ∈ rows, WFR x := fun x hx => dr_wf (w4 x hx)
  have hpl : 0 < r.pl.length := by have := dr.1; omega
  have used : ∀ K : T → Prop, K (tI (usedOf es.length rows)) → callP sp_law_used [.node .lst (es.map dI), .node .lst (rows.map rowD)] K := fun K h => call_of (s := sp_law_used) (es, rows) ⟨rfl, fun x hx => (w4 x hx).2.2⟩ fun t e => by rw [show t = _ from e]; exact h
  have hul := usedOf_len es.length rows
  generalize usedOf es.length rows = us at used hul
  have ht := dr.2.2 (gi r.ti k.toNat) (gi_mem (by omega))
  have hwith : ∀ (x : Int) (K : T → Prop), (∀ rows', rows'.length = rows.length → (∀ x ∈ rows', WFR x) → K (tRs rows')) → callP sp_law_with [.node .lst (rows.map rowD), .int a, .int x, dI r.pl, dI r.ti] K := fun x K h =>
    call_of (s := sp_law_with) (rows, a, ⟨x, r.pl, r.ti⟩) ⟨rfl, a0, by omega, by omega⟩ fun t ⟨rows', e, l, q⟩ => by
      rw [e]
      refine h rows' l fun y hy => ?_
      rcases q y hy with z | z
      · exact wr y z
      · rw [z]
        exact wr r hmem
  have hcost : ∀ (cs' : List (Option Int)) (c : Option Int) (K : T → Prop), cs'.length = es.length → (∀ cs'' : List (Option Int), cs''.length = es.length → K (.node .lst (cs''.map fun c => .s (optD c)))) → callP sp_law_cost [.node .lst (cs'.map optD), .int (gi r.ti k.toNat), optD c] K := fun cs' c K l h =>
    call_of (s := sp_law_cost) (cs', gi r.ti k.toNat, c) ⟨rfl, ht.1, by omega, by omega⟩ fun t ⟨cs'', e, l'⟩ => by
      rw [e]
      exact h cs'' (by omega)
  simp [law_about_costs_1, law_about_costs_2, law_about_costs_3]
  refine ixD_map a0 (by omega) fun hh => ?_
  rw [hre]
  simp [law_about_costs_4, rowD]
  refine ixD_int k0 k1 ?_
  generalize gi r.ti k.toNat = tie at ht hcost ⊢
  simp [law_about_costs_5]
  refine used _ ?_
  simp [law_about_costs_6]
  refine And.intro (by omega) ?_
  refine lc_rng (fun j => .s (.int (gi us j))) (by omega) (fun i hi Y N y => ?_) ?_
  · simp
    refine ixD_int (by omega) (by omega) ?_
    simpa using y
  have e8 : ((List.range cs.length).map fun j => T.s (D.int (gi us j))) = ((((List.range cs.length).map (gi us)).map some).map optD).map T.s := by rw [List.map_map, List.map_map, List.map_map]; rfl
  rw [e8]
  generalize h8 : ((List.range cs.length).map (gi us)).map some = u8
  have l8 : u8.length = cs.length := by rw [← h8]; simp
  clear e8 h8
  simp [law_about_costs_7]
  refine And.intro (by omega) ?_
  refine lc_rng (fun j => .s (.int (gi us j + r.a * if (j : Int) ∈ r.ti then 1 else 0))) (by omega) (fun i hi Y N y => ?_) ?_
  · simp
    refine ixD_int (by omega) (by omega) ?_
    simp
    refine And.intro (.inr (by split <;> omega)) ?_
    simpa using y
  have e9 : ((List.range cs.length).map fun j => T.s (D.int (gi us j + r.a * if ((j : Nat) : Int) ∈ r.ti then 1 else 0))) = ((((List.range cs.length).map (fun j => gi us j + r.a * if ((j : Nat) : Int) ∈ r.ti then 1 else 0)).map some).map optD).map T.s := by rw [List.map_map, List.map_map, List.map_map]; rfl
  rw [e9]
  generalize h9 : ((List.range cs.length).map (fun j => gi us j + r.a * if ((j : Nat) : Int) ∈ r.ti then 1 else 0)).map some = u9
  have l9 : u9.length = cs.length := by rw [← h9]; simp
  have s9 : ∀ x ∈ u9, ∃ c, x = some c := fun x hx => by
    rw [← h9] at hx
    obtain ⟨c, _, rfl⟩ := List.mem_map.mp hx
    exact ⟨c, rfl⟩
  clear e9 h9
  simp [law_about_costs_8]
  refine lc_all (fun x : Int => .s (.int x)) (fun _ => True) (.inl rfl) (fun i d Y N e hi y z => ?_) fun z' lz _ => ?_
  · obtain ⟨hi', rfl⟩ := map_some e
    simp
    refine ixD_int (by omega) (by omega) ?_
    simp
    split
    · exact y
    · exact z _ trivial
  simp [law_about_costs_9]
  refine lc_all (fun x : Int => .s (.int x)) (fun _ => True) (.inl rfl) (fun i d Y N e hi y z => ?_) fun o' lo _ => ?_
  · obtain ⟨hi', rfl⟩ := map_some e
    simp
    refine ixD_int (by omega) (by omega) ?_
    simp
    split
    · exact y
    · exact z _ trivial
  clear lz lo
  simp (maxSteps := 2000000) [law_about_costs_10]
  simp (maxSteps := 2000000) [law_about_costs_11]
  simp (maxSteps := 2000000) [law_about_costs_12]
  refine ixD_int (by omega) (by omega) ?_
  simp
  refine hcost u8 (some _) _ (by omega) fun c1 hc1 => ?_
  simp (maxSteps := 2000000) [law_about_costs_13]
  refine And.intro (by omega) ?_
  simp (maxSteps := 2000000) [law_about_costs_14]
  refine ixD_mapM ht.1 (by omega) fun x hx => ?_
  obtain ⟨x, rfl⟩ := s9 x hx
  simp [optD_some]
  refine hcost u9 (some _) _ (by omega) fun c2 hc2 => ?_
  simp
  refine And.intro (by omega) ?_
  simp (maxSteps := 2000000) [law_about_costs_15]
  refine hcost cs none _ (by omega) fun c3 hc3 => ?_
  simp
  refine And.intro (by omega) ?_
  simp (maxSteps := 2000000) [law_about_costs_16]
  refine hwith _ _ fun w1' lw1 hw1 => ?_
  simp (maxSteps := 2000000) [law_about_costs_17]
  refine hwith _ _ fun w2' lw2 hw2 => ?_
  simp (maxSteps := 2000000) [law_about_costs_18]
  simp (maxSteps := 2000000) [law_about_costs_19]
  simp (maxSteps := 2000000) [law_about_costs_20]
  have rr : ∀ x ∈ rows ++ [r], WFR x := fun x hx => by
    rcases List.mem_append.mp hx with z | z
    · exact wr x z
    · rw [List.mem_singleton.mp z]
      exact wr r hmem
  have rr2 : ∀ x ∈ rows ++ [r, r], WFR x := fun x hx => by
    rcases List.mem_append.mp hx with z | z
    · exact wr x z
    · have : x = r := by simpa using z
      rw [this]
      exact wr r hmem
  refine lc_all (fun q : Qn => .s (qD q)) WFQ (.inl rfl) (fun i d Y N e hi y z => ?_) fun qs lq hq => ?_
  · have hd : ∃ p, d = ppD p ∧ WFP es.length p := by
      have hm := List.mem_of_getElem? e
      simp only [List.mem_cons, List.not_mem_nil, or_false] at hm
      rcases hm with rfl | rfl | rfl | rfl | rfl | rfl | rfl | rfl | rfl | rfl | rfl
      · exact ⟨⟨zs, os, cs, rows.reverse⟩, by simp only [ppD, List.map_reverse], w1, by simp; omega, fun x hx => wr x (by simpa using hx)⟩
      · exact ⟨⟨zs, os, cs, []⟩, rfl, w1, Nat.zero_le _, fun x hx => nomatch hx⟩
      · exact ⟨⟨zs, os, u8, rows⟩, rfl, (by simp only; omega), (by simp only; omega), wr⟩
      · exact ⟨⟨zs, os, c1, rows⟩, rfl, hc1, (by simp only; omega), wr⟩
      · exact ⟨⟨zs, os, u9, rows ++ [r]⟩, by simp only [ppD, List.map_append]; rfl, (by simp only; omega), by simp; omega, rr⟩
      · exact ⟨⟨zs, os, c2, rows ++ [r]⟩, by simp only [ppD, List.map_append]; rfl, hc2, by simp; omega, rr⟩
      · exact ⟨⟨zs, os, c3, rows ++ [r, r]⟩, by simp only [ppD, List.map_append]; rfl, hc3, by simp; omega, rr2⟩
      · exact ⟨⟨zs, os, cs, w1'⟩, rfl, w1, (by simp only; omega), hw1⟩
      · exact ⟨⟨zs, os, cs, w2'⟩, rfl, w1, (by simp only; omega), hw2⟩
      · exact ⟨⟨z', os, cs, rows⟩, rfl, w1, (by simp only; omega), wr⟩
      · exact ⟨⟨zs, o', cs, rows⟩, rfl, w1, (by simp only; omega), wr⟩
    obtain ⟨p, rfl, hw⟩ := hd
    simp [ppD]
    exact z ⟨n, es, p.cs, p.zs, p.os, p.rows⟩ ⟨hw.1, Nat.le_trans w2 (by decide), hw.2.1, hw.2.2⟩
  · simp
    exact hp qs (by simpa using Nat.le_trans lq (by simp)) hq
end K05

namespace K05
open PySem L2 PL
theorem len_law_about_rows : ∀ ds a, sp_law_about_rows.pre ds a → ds.length = 4 := fun ds ⟨z, n⟩ ⟨h, _⟩ => by rw [h]; rfl
theorem pu_law_about_rows (ds a) (pre : sp_law_about_rows.pre ds a) : law_about_rows_1 { nx := fun _ => sp_law_about_rows.post a (.s .non), rt := fun t _ => sp_law_about_rows.post a t } (startP N_law_about_rows ds) := by
  obtain ⟨⟨n, es, cs, zs, os, rows⟩, a, k, oth⟩ := a
  obtain ⟨e, ⟨w1, w2, w3, w4⟩, a0, k0, r, hr, k1⟩ := pre
  simp only at w1 w2 w3 w4 hr
  subst e
  show law_about_rows_1 _ [.own none (.s (.node .lst [.int n, .node .lst (es.map dI), .node .lst (cs.map optD), dI zs, dI os, .node .lst (rows.map rowD)])), .own none (.s (.int a)), .own none (.s (.int k)), .own none (.s (.int oth)), .un, .un, .un, .un, .un, .un, .un, .un, .un, .un, .un, .un]
  generalize hpost : sp_law_about_rows.post (⟨n, es, cs, zs, os, rows⟩, a, k, oth) = post
  have hp : ∀ qs : List Qn, qs.length ≤ 20 → (∀ q ∈ qs, WFQ q) → post (tQs qs) := fun qs a b => by rw [← hpost]; exact ⟨qs, rfl, a, b⟩
  have hz := sizeLine_eq
  obtain ⟨ha, hre⟩ := List.getElem?_eq_some_iff.mp hr
  have hmem : r ∈ rows := List.mem_of_getElem? hr
  have dr := w4 r hmem
  obtain ⟨dr1, dr2, dr3⟩ := dr
  have wr : ∀ x ∈ rows, WFR x := fun x hx => dr_wf (w4 x hx)
  have hwith : ∀ (pl ti : List Int) (K : T → Prop), pl.length < 60 → ti.length < 60 → (∀ rows', rows'.length = rows.length → (∀ x ∈ rows', WFR x) → K (tRs rows')) → callP sp_law_with [.node .lst (rows.map rowD), .int a, .int r.a, dI pl, dI ti] K := fun pl ti K l1 l2 h =>
    call_of (s := sp_law_with) (rows, a, ⟨r.a, pl, ti⟩) ⟨rfl, a0, by omega, by omega⟩ fun t ⟨rows', e, l, q⟩ => by
      rw [e]
      refine h rows' l fun y hy => ?_
      rcases q y hy with z | z
      · exact wr y z
      · rw [z]
        exact ⟨l1, l2⟩
  have ek : (k + 1).toNat = k.toNat + 1 := by omega
  simp [law_about_rows_1, law_about_rows_2]
  refine ixD_map a0 (by omega) fun hh => ?_
  rw [hre]
  simp [law_about_rows_3, law_about_rows_4, law_about_rows_5, rowD]
  refine ixD_int k0 (by omega) ?_
  generalize gi r.pl k.toNat = here
  simp [law_about_rows_6, law_about_rows_7]
  refine ixD_int (by omega) (by omega) ?_
  generalize gi r.pl (k + 1).toNat = nxt'
  try simp
  refine ixD_int (by omega) (by omega) ?_
  generalize gi r.pl ((r.pl.length : Int) - 1).toNat = lst'
  try simp
  refine And.intro (by omega) ?_
  simp [law_about_rows_8]
  refine gSort_ints (ns := [here, oth]) rfl fun s1 h1 => ?_
  try simp
  refine gSort_ints (ns := [here, oth]) rfl fun s2 h2 => ?_
  try simp
  refine And.intro (by omega) ?_
  have he : (List.map (fun a => dI a) es ++ [D.node Shape.lst [D.int here], D.node Shape.lst [D.int nxt'], D.node Shape.lst [D.int lst'], D.node Shape.lst (List.map (fun a => D.int a) s1), D.node Shape.lst (List.map (fun a => D.int a) s2)]) = (es ++ [[here], [nxt'], [lst'], s1, s2]).map dI := by rw [List.map_append]; rfl
  rw [he]
  have l10 : (es ++ [[here], [nxt'], [lst'], s1, s2]).length = es.length + 5 := by simp
  generalize es ++ [[here], [nxt'], [lst'], s1, s2] = es' at l10 ⊢
  clear he h1 h2
  have c1 : ∀ ts : List T, cutL ts none (some k) = ts.take k.toNat := fun ts => cutL_to k0
  have c2 : ∀ ts : List T, cutL ts (some k) none = ts.drop k.toNat := fun ts => cutL_from k0
  have c3 : ∀ ts : List T, cutL ts none (some (k + 1)) = ts.take (k.toNat + 1) := fun ts => by rw [cutL_to (by omega), ek]
  have c4 : ∀ ts : List T, cutL ts (some (k + 1)) none = ts.drop (k.toNat + 1) := fun ts => by rw [cutL_from (by omega), ek]
  have c5 : ∀ ts : List T, cutL ts none (some ((r.ti.length : Int) - 1)) = ts.take (r.ti.length - 1) := fun ts => by
    rw [cutL_to (by omega)]
    congr 1
    omega
  simp (maxSteps := 2000000) [law_about_rows_9, c1, c4]
  repeat refine And.intro (by omega) ?_
  simp (maxSteps := 2000000) [law_about_rows_10, c5]
  simp (maxSteps := 2000000) [law_about_rows_11]
  refine And.intro (by omega) ?_
  simp (maxSteps := 2000000) [law_about_rows_12, c1, c4]
  refine ixD_int k0 k1 ?_
  simp (maxSteps := 2000000) [c1, c4]
  repeat refine And.intro (by omega) ?_
  simp (maxSteps := 2000000) [law_about_rows_13, c1, c4]
  refine ixD_int k0 k1 ?_
  simp (maxSteps := 2000000) [c1, c4]
  repeat refine And.intro (by omega) ?_
  simp (maxSteps := 2000000) [law_about_rows_14, c1, c2, c3, c4]
  repeat refine And.intro (by omega) ?_
  simp (maxSteps := 2000000) [law_about_rows_15]
  simp (maxSteps := 2000000) [law_about_rows_16]
  repeat refine And.intro (by omega) ?_
  have hc : (List.map (fun a => optD a) cs ++ [D.non, D.non, D.non, D.non, D.non]) = (cs ++ [none, none, none, none, none]).map optD := by rw [List.map_append]; rfl
  rw [hc]
  have lc5 : (cs ++ [none, none, none, none, none]).length = es'.length := by simp; omega
  generalize cs ++ [none, none, none, none, none] = cs' at lc5 ⊢
  simp (maxSteps := 2000000) [law_about_rows_17]
  simp (maxSteps := 2000000) [law_about_rows_18]
  have fin : ∀ (items : List D) (c : Cell), items.length ≤ 20 → (∀ d ∈ items, ∃ pl ti : List Int, d = .node .lst [dI pl, dI ti] ∧ pl.length < 60 ∧ ti.length < 60) → loopD items (.nm 14) law_about_rows_19 (law_about_rows_21 { nx := fun _ => post (.s .non), rt := fun t _ => post t }) (fun t _ => post t)
      [.own none (.s (.node .lst [.int n, .node .lst (es.map dI), .node .lst (cs.map optD), dI zs, dI os, .node .lst (rows.map rowD)])), .own none (.s (.int a)), .own none (.s (.int k)), .own none (.s (.int oth)), .own none (.s (.node .lst (rows.map rowD))), .own none (.s (.node .lst [.int r.a, dI r.pl, dI r.ti])), .own none (.s (dI r.pl)), .own none (.s (dI r.ti)), .own none (.s (.int here)), .own none (.s (.int es.length)), .own none (.s (.node .lst (es'.map dI))), c, .own none (.s (.node .lst (cs'.map optD))), .own none (.node .lst []), .un, .un] := fun items c hl hall => by
    refine loop_rel (ι := List Qn × Option D × Option D) (fun s => [(13, .own none (tQs s.1)), (14, fc s.2.1), (15, fc s.2.2)]) (fun j s => s.1.length ≤ j ∧ ∀ q ∈ s.1, WFQ q) ([], none, none) ⟨Nat.le_refl _, fun _ z => nomatch z⟩ (by simp) ?_ ?_
    · rintro j d ⟨qs, o, o2⟩ hj hjl ⟨i1, i2⟩
      simp only at i1 i2
      obtain ⟨pl, ti, rfl, l1, l2⟩ := hall d (List.mem_of_getElem? hj)
      simp [law_about_rows_19]
      refine hwith pl ti _ l1 l2 fun rows' lr wr' => ?_
      simp [law_about_rows_20]
      refine And.intro (by omega) ?_
      refine nxt (qs ++ [⟨n, es', cs', zs, os, rows'⟩], some _, some _) ⟨by simp; omega, fun q hq => ?_⟩ (by simp [qD] <;> exact ⟨rfl, rfl⟩)
      rcases List.mem_append.mp hq with z | z
      · exact i2 q z
      · rw [List.mem_singleton.mp z]
        exact ⟨lc5, by simp only; omega, by simp only; omega, wr'⟩
    · rintro ⟨qs, o, o2⟩ ⟨i1, i2⟩
      simp only at i1 i2
      simp [law_about_rows_21]
      exact hp qs (by omega) i2
  refine fin _ _ (by simp) fun d hd => ?_
  simp only [List.mem_cons, List.not_mem_nil, or_false] at hd
  have ps := r.pl.length
  rcases hd with rfl | rfl | rfl | rfl | rfl | rfl | rfl | rfl
  · exact ⟨r.pl, r.ti.take k.toNat ++ (es.length : Int) :: r.ti.drop (k.toNat + 1), by simp only [dI, List.map_append, List.map_take, List.map_drop, List.map_cons], by omega, by simp; omega⟩
  · exact ⟨r.pl, r.ti.take k.toNat ++ ((es.length : Int) + 1) :: r.ti.drop (k.toNat + 1), by simp only [dI, List.map_append, List.map_take, List.map_drop, List.map_cons], by omega, by simp; omega⟩
  · exact ⟨r.pl, r.ti.take (r.ti.length - 1), by simp only [dI, List.map_take], by omega, by simp; omega⟩
  · exact ⟨r.pl, r.ti ++ [(es.length : Int) + 2], by simp only [dI, List.map_append, List.map_cons, List.map_nil], by omega, by simp; omega⟩
  · exact ⟨r.pl, r.ti.take k.toNat ++ (gi r.ti k.toNat - (es'.length : Int)) :: r.ti.drop (k.toNat + 1), by simp only [dI, List.map_append, List.map_take, List.map_drop, List.map_cons], by omega, by simp; omega⟩
  · exact ⟨r.pl, r.ti.take k.toNat ++ (gi r.ti k.toNat + (es'.length : Int)) :: r.ti.drop (k.toNat + 1), by simp only [dI, List.map_append, List.map_take, List.map_drop, List.map_cons], by omega, by simp; omega⟩
  · exact ⟨r.pl.take (k.toNat + 1) ++ oth :: here :: r.pl.drop (k.toNat + 1), r.ti.take k.toNat ++ ((es.length : Int) + 3) :: ((es.length : Int) + 4) :: r.ti.drop k.toNat, by simp only [dI, List.map_append, List.map_take, List.map_drop, List.map_cons], by simp; omega, by simp; omega⟩
  · exact ⟨[], [], rfl, by simp, by simp⟩
end K05

namespace K05
open PySem L2 PL
theorem len_law_about_few : ∀ ds a, sp_law_about_few.pre ds a → ds.length = 4 := fun ds ⟨z, n⟩ ⟨h, _⟩ => by rw [h]; rfl
theorem pu_law_about_few (ds a) (pre : sp_law_about_few.pre ds a) : law_about_few_1 { nx := fun _ => sp_law_about_few.post a (.s .non), rt := fun t _ => sp_law_about_few.post a t } (startP N_law_about_few ds) := by
  obtain ⟨⟨n, es, cs, zs, os, rows⟩, a, b, c⟩ := a
  obtain ⟨e, w1, w2, w3, w4, wz, wo⟩ := pre
  simp only at w1 w2 w3 w4 wz wo
  subst e
  show law_about_few_1 _ [.own none (.s (.node .lst [.int n, .node .lst (es.map dI), .node .lst (cs.map optD), dI zs, dI os, .node .lst (rows.map rowD)])), .own none (.s (.int a)), .own none (.s (.int b)), .own none (.s (.int c)), .un, .un, .un, .un, .un, .un, .un, .un, .un, .un]
  generalize hpost : sp_law_about_few.post (⟨n, es, cs, zs, os, rows⟩, a, b, c) = post
  have hp : ∀ qs : List Qn, qs.length ≤ 20 → (∀ q ∈ qs, WFQ q) → post (tQs qs) := fun qs a b => by rw [← hpost]; exact ⟨qs, rfl, a, b⟩
  have hz := sizeLine_eq
  have wr : ∀ x ∈ rows, WFR x := fun x hx => dr_wf (w4 x hx)
  have turn : ∀ (x : Int) (src : Bool) (lock : Option Nat) (tgt : Tgt) (pt : PB) (pe : PX) (vs : List Nat) (env : En) (K : R → Prop), (∀ (Y : T → Prop) (N : Prop), N → (∀ y, Y (.s (.int y))) → lcTurn tgt pt pe (wipeE env vs) (.int x) Y N) → (∀ bs : List Int, bs.length ≤ 1 → K (.va (tI bs))) → lcK ⟨[.int x], lock, true⟩ tgt pt pe vs env K := fun x src lock tgt pt pe vs env K h1 h2 =>
    lc_all (fun x : Int => .s (.int x)) (fun _ => True) (.inl rfl) (fun i d Y N e hi y z => by
      have : d = .int x := by
        have := List.mem_of_getElem? e
        simpa using this
      rw [this]
      exact h1 Y N y fun y => z y trivial) fun bs l _ => h2 bs l
  simp [law_about_few_1]
  refine turn a true _ _ _ _ _ _ _ (fun Y N y z => ?_) fun b1 lb1 => ?_
  · simp
    split
    · exact y
    · exact z _
  simp
  refine And.intro (by omega) ?_
  rw [← List.map_append]
  have lz : (zs ++ b1).length ≤ 2000 := by simp; omega
  generalize zs ++ b1 = zs' at lz ⊢
  simp [law_about_few_2]
  refine turn a true _ _ _ _ _ _ _ (fun Y N y z => ?_) fun b2 lb2 => ?_
  · simp
    split
    · exact y
    · exact z _
  simp
  refine And.intro (by omega) ?_
  rw [← List.map_append]
  have lo : (os ++ b2).length ≤ 2000 := by simp; omega
  generalize os ++ b2 = os' at lo ⊢
  simp [law_about_few_3]
  refine And.intro (by omega) ?_
  have e6 : (List.map (fun a => rowD a) rows ++ [D.node .lst [D.int 1000000000000, D.node .lst [D.int a], D.node .lst []]]) = (rows ++ [(⟨1000000000000, [a], []⟩ : Rw)]).map rowD := by rw [List.map_append]; rfl
  rw [e6]
  have l6 : (rows ++ [(⟨1000000000000, [a], []⟩ : Rw)]).length ≤ 1000 := by simp; omega
  have r6 : ∀ x ∈ rows ++ [(⟨1000000000000, [a], []⟩ : Rw)], WFR x := fun x hx => by
    rcases List.mem_append.mp hx with z | z
    · exact wr x z
    · rw [List.mem_singleton.mp z]
      exact ⟨by simp, by simp⟩
  generalize rows ++ [(⟨1000000000000, [a], []⟩ : Rw)] = rows6 at l6 r6 ⊢
  simp [law_about_few_4]
  refine And.intro (by omega) ?_
  have e7 : (List.map (fun a => rowD a) rows ++ [D.node .lst [D.int 1, D.node .lst [D.int (a - n)], D.node .lst []]]) = (rows ++ [(⟨1, [a - n], []⟩ : Rw)]).map rowD := by rw [List.map_append]; rfl
  rw [e7]
  have l7 : (rows ++ [(⟨1, [a - n], []⟩ : Rw)]).length ≤ 1000 := by simp; omega
  have r7 : ∀ x ∈ rows ++ [(⟨1, [a - n], []⟩ : Rw)], WFR x := fun x hx => by
    rcases List.mem_append.mp hx with z | z
    · exact wr x z
    · rw [List.mem_singleton.mp z]
      exact ⟨by simp, by simp⟩
  generalize rows ++ [(⟨1, [a - n], []⟩ : Rw)] = rows7 at l7 r7 ⊢
  clear e6 e7
  simp [law_about_few_5, law_about_few_6]
  refine lc_all (fun x : Int => .s (.int x)) (fun _ => True) (.inl rfl) (fun i d Y N e hi y z => ?_) fun o1 _ _ => ?_
  · obtain ⟨hi', rfl⟩ := map_some e
    simp
    split
    · exact y
    · exact z _ trivial
  simp [law_about_few_7]
  refine lc_all (fun x : Int => .s (.int x)) (fun _ => True) (.inl rfl) (fun i d Y N e hi y z => ?_) fun z1 _ _ => ?_
  · obtain ⟨hi', rfl⟩ := map_some e
    simp
    split
    · exact y
    · exact z _ trivial
  simp [law_about_few_8]
  have q4 : ∀ q ∈ ([⟨n, es, cs, zs', os', rows6⟩, ⟨n, es, cs, zs', os', rows7⟩, ⟨n, es, cs, zs', o1, rows6⟩, ⟨n, es, cs, z1, os', rows6⟩] : List Qn), WFQ q := fun q hq => by
    simp only [List.mem_cons, List.not_mem_nil, or_false] at hq
    rcases hq with rfl | rfl | rfl | rfl
    · exact ⟨w1, by simp only; omega, l6, r6⟩
    · exact ⟨w1, by simp only; omega, l7, r7⟩
    · exact ⟨w1, by simp only; omega, l6, r6⟩
    · exact ⟨w1, by simp only; omega, l6, r6⟩
  split
  rotate_left
  · simp [law_about_few_14]
    exact hp [⟨n, es, cs, zs', os', rows6⟩, ⟨n, es, cs, zs', os', rows7⟩, ⟨n, es, cs, zs', o1, rows6⟩, ⟨n, es, cs, z1, os', rows6⟩] (by simp) q4
  simp [law_about_few_9]
  refine gSort_ints (ns := [a, b, c]) rfl fun s1 h1 => ?_
  try simp
  refine gSort_ints (ns := [a, b, c]) rfl fun s2 h2 => ?_
  try simp
  refine And.intro (by omega) ?_
  have he : (List.map (fun a => dI a) es ++ [D.node Shape.lst (List.map (fun a => D.int a) s1), D.node Shape.lst (List.map (fun a => D.int a) s2)]) = (es ++ [s1, s2]).map dI := by rw [List.map_append]; rfl
  rw [he]
  have l9 : (es ++ [s1, s2]).length = es.length + 2 := by simp
  generalize es ++ [s1, s2] = es9 at l9 ⊢
  simp [law_about_few_10, law_about_few_11]
  refine turn c true _ _ _ _ _ _ _ (fun Y N y z => ?_) fun b3 lb3 => ?_
  · simp
    split
    · exact y
    · exact z _
  simp
  refine And.intro (by omega) ?_
  rw [← List.map_append]
  generalize os' ++ b3 = lasts
  have e11 : (List.map optD cs ++ [D.int 14, D.non]) = (cs ++ [some 14, none]).map optD := by rw [List.map_append]; rfl
  have l11 : (cs ++ [some 14, none]).length = es9.length := by simp; omega
  simp [law_about_few_12]
  have fin : ∀ items : List D, items.length ≤ 3 → (∀ d ∈ items, ∃ pl ti : List Int, d = .node .lst [dI pl, dI ti] ∧ pl.length < 60 ∧ ti.length < 60) → loopD items (.nm 12) law_about_few_13 (law_about_few_14 { nx := fun _ => post (.s .non), rt := fun t _ => post t }) (fun t _ => post t)
      [.own none (.s (.node .lst [.int n, .node .lst (es.map dI), .node .lst (cs.map optD), dI zs, dI os, .node .lst (rows.map rowD)])), .own none (.s (.int a)), .own none (.s (.int b)), .own none (.s (.int c)), .own none (.s (dI zs')), .own none (.s (dI os')), .own none (.s (.node .lst (rows6.map rowD))), .own none (.s (.node .lst (rows7.map rowD))), .own none (tQs [⟨n, es, cs, zs', os', rows6⟩, ⟨n, es, cs, zs', os', rows7⟩, ⟨n, es, cs, zs', o1, rows6⟩, ⟨n, es, cs, z1, os', rows6⟩]), .own none (.s (.node .lst (es9.map dI))), .own none (.s (.int es.length)), .own none (.s (dI lasts)), .un, .un] := fun items hl hall => by
    refine loop_rel (ι := List Qn × Option D) (fun s => [(8, .own none (tQs s.1)), (12, fc s.2)]) (fun j s => s.1.length ≤ j + 4 ∧ ∀ q ∈ s.1, WFQ q) (_, none) ⟨by simp, q4⟩ rfl ?_ ?_
    · rintro j d ⟨qs, o⟩ hj hjl ⟨i1, i2⟩
      simp only at i1 i2
      obtain ⟨pl, ti, rfl, l1, l2⟩ := hall d (List.mem_of_getElem? hj)
      simp [law_about_few_13]
      refine And.intro (by omega) (And.intro (by omega) ?_)
      rw [e11]
      refine nxt (qs ++ [⟨n, es9, cs ++ [some 14, none], zs', lasts, [⟨7, pl, ti⟩]⟩], some _) ⟨by simp; omega, fun q hq => ?_⟩ (by simp [qD, rowD] <;> rfl)
      rcases List.mem_append.mp hq with z | z
      · exact i2 q z
      · rw [List.mem_singleton.mp z]
        exact ⟨l11, by simp only; omega, by simp, fun x hx => by rw [List.mem_singleton.mp hx]; exact ⟨l1, l2⟩⟩
    · rintro ⟨qs, o⟩ ⟨i1, i2⟩
      simp only at i1 i2
      simp [law_about_few_14]
      exact hp qs (by omega) i2
  refine fin _ (by simp) fun d hd => ?_
  simp only [List.mem_cons, List.not_mem_nil, or_false] at hd
  rcases hd with rfl | rfl | rfl
  · exact ⟨[a, c], [_], rfl, by simp, by simp⟩
  · exact ⟨[a, b, c], [_, _], rfl, by simp, by simp⟩
  · exact ⟨[a, b, c], [_, _], rfl, by simp, by simp⟩
end K05

namespace K05
open PySem L2 PL
theorem dr_mono {m : Nat} {r : Rw} (h : DR m r) : DR (m + 1) r := ⟨h.1, h.2.1, fun j hj => by have := h.2.2 j hj; omega⟩
/-- rows of a packing over m ties -/
def Pk (m : Nat) (n : Int) (rows : List Rw) : Prop := rows.length ≤ 200 ∧ ∀ r ∈ rows, DR m r ∧ (0 < r.ti.length → 2 ≤ n)
theorem few_wf {q : Qn} (h : Few q) : WFQ q := ⟨h.1, by have := h.2.1; omega, by have := h.2.2.1; omega, fun r hr => dr_wf (h.2.2.2.1 r hr)⟩
theorem few_base {q : Qn} (h : Few q) : Base q := ⟨h.1, h.2.1, h.2.2.1, h.2.2.2.1⟩
theorem run23 (ns : List Int) (n : Int) (es : List (List Int)) (dr : List Int) (one two : Int) (rest : List Int) (ed : List (List Int)) (rows : List Rw) (ro us : List Int) (cs : List (Option Int)) (o : Option D) (zs os : List Int) (post : T → Prop) (hp : post (.s (.bl true)))
    (n1 : 1 ≤ n) (n2 : n ≤ 100) (led : ed.length ≤ 64) (pk1 : rows.length ≤ 200) (pk2 : ∀ r ∈ rows, DR ed.length r ∧ (0 < r.ti.length → 2 ≤ n)) (lcs : cs.length = ed.length) (hl : dr.length = 13) (d0 : 0 ≤ gi dr 0 ∧ gi dr 0 < 4) (d3 : 0 ≤ gi dr 3 ∧ gi dr 3 < 60) (d8 : 0 ≤ gi dr 8 ∧ gi dr 8 < 600) (d9 : 0 ≤ gi dr 9 ∧ gi dr 9 < 60) (lz : zs.length ≤ 200) (lo : os.length ≤ 200) :
    law_23 { nx := fun _ => post (.s .non), rt := fun t _ => post t } [.own none (.s (.node .ro (ns.map .int))), .own none (.s (.node .lst [.int n, .node .lst (es.map dI)])), .own none (.s (.int n)), .own none (.s (dI dr)), .own none (.s (.int one)), .own none (.s (.int two)), .own none (.s (dI rest)), .own none (.s (.node .lst (ed.map dI))), .own none (.s (.node .lst (rows.map rowD))), .own none (.s (dI ro)), .own none (.s (dI us)), .own none (.s (.node .lst (cs.map optD))), fc o, .own none (.s (dI zs)), .own none (.s (dI os)), .own none (.s (.node .lst [.int n, .node .lst (ed.map dI), .node .lst (cs.map optD), dI zs, dI os, .node .lst (rows.map rowD)])), .un, .un, .un, .un, .un, .un, .un] := by
  have hz := sizeLine_eq
  have few : Few ⟨n, ed, cs, zs, os, rows⟩ := ⟨lcs, by simp only; omega, pk1, fun r hr => (pk2 r hr).1, by simp only; omega, by simp only; omega⟩
  have m34 : ∀ (qs : List Qn) (c12 c17 c18 c19 : Cell), qs.length ≤ 100 → (∀ q ∈ qs, WFQ q) → law_34 { nx := fun _ => post (.s .non), rt := fun t _ => post t } [.own none (.s (.node .ro (ns.map .int))), .own none (.s (.node .lst [.int n, .node .lst (es.map dI)])), .own none (.s (.int n)), .own none (.s (dI dr)), .own none (.s (.int one)), .own none (.s (.int two)), .own none (.s (dI rest)), .own none (.s (.node .lst (ed.map dI))), .own none (.s (.node .lst (rows.map rowD))), .own none (.s (dI ro)), .own none (.s (dI us)), .own none (.s (.node .lst (cs.map optD))), c12, .own none (.s (dI zs)), .own none (.s (dI os)), .own none (.s (.node .lst [.int n, .node .lst (ed.map dI), .node .lst (cs.map optD), dI zs, dI os, .node .lst (rows.map rowD)])), .own none (.s (.node .lst (qs.map qD))), c17, c18, c19, .un, .un, .un] := fun qs c12 c17 c18 c19 lq hq => by
    simp [law_34]
    refine And.intro (by omega) ?_
    have ei : (List.map (fun a => qD a) qs ++ [D.node .lst [.int n, .node .lst (ed.map dI), .node .lst (cs.map optD), dI zs, dI os, .node .lst (rows.map rowD)]]) = (qs ++ [(⟨n, ed, cs, zs, os, rows⟩ : Qn)]).map qD := by rw [List.map_append]; rfl
    rw [ei]
    have hq' : ∀ q ∈ qs ++ [(⟨n, ed, cs, zs, os, rows⟩ : Qn)], WFQ q := fun q h => by
      rcases List.mem_append.mp h with z | z
      · exact hq q z
      · rw [List.mem_singleton.mp z]
        exact few_wf few
    generalize qs ++ [(⟨n, ed, cs, zs, os, rows⟩ : Qn)] = qs' at hq' ⊢
    refine loop_rel (ι := Option D) (fun s => [(20, fc s)]) (fun _ _ => True) none trivial (by simp) ?_ ?_
    · intro k d o hk hkl _
      obtain ⟨hk', rfl⟩ := map_some hk
      simp [law_35]
      refine ixD_int (by omega) (by omega) ?_
      simp
      refine call_of (s := sp_law_asked) (qs'[k], gi dr 0) ⟨rfl, hq' _ (List.getElem_mem hk'), d0.1, by omega⟩ ?_
      rintro t rfl
      simp
      exact nxt (some _) trivial rfl
    · intro o _
      simp [law_37]
      exact hp
  have m28 : ∀ (qs : List Qn), qs.length ≤ 30 → (∀ q ∈ qs, WFQ q) → law_28 { nx := fun _ => post (.s .non), rt := fun t _ => post t } [.own none (.s (.node .ro (ns.map .int))), .own none (.s (.node .lst [.int n, .node .lst (es.map dI)])), .own none (.s (.int n)), .own none (.s (dI dr)), .own none (.s (.int one)), .own none (.s (.int two)), .own none (.s (dI rest)), .own none (.s (.node .lst (ed.map dI))), .own none (.s (.node .lst (rows.map rowD))), .own none (.s (dI ro)), .own none (.s (dI us)), .own none (.s (.node .lst (cs.map optD))), fc o, .own none (.s (dI zs)), .own none (.s (dI os)), .own none (.s (.node .lst [.int n, .node .lst (ed.map dI), .node .lst (cs.map optD), dI zs, dI os, .node .lst (rows.map rowD)])), .own none (.s (.node .lst (qs.map qD))), .un, .un, .un, .un, .un, .un] := fun qs lq hq => by
    simp [law_28]
    refine And.intro (by omega) ?_
    refine lc_all (fun x : Int => .s (.int x)) (fun x => 0 ≤ x ∧ ∃ w, rows[x.toNat]? = some w ∧ 0 < w.ti.length) (.inr (by simp; omega)) (fun i d Y N e hi y z => ?_) fun lg _ hlg => ?_
    · obtain ⟨rfl, hi⟩ := rngL_some e
      simp
      refine ixD_map (by omega) (by omega) fun hh => ?_
      simp [rowD]
      split
      · rename_i c
        exact z _ ⟨by omega, rows[i], by simp [List.getElem?_eq_getElem hi], c⟩
      · exact y
    simp [law_29]
    split
    · rename_i hpos
      simp [law_30]
      refine ixD_int (by omega) (by omega) ?_
      simp
      refine And.intro hpos ?_
      refine ixD_mapM (f := D.int) (Int.emod_nonneg _ (by omega)) (Int.emod_lt_of_pos _ (by omega)) fun at' hat => ?_
      obtain ⟨h0, w, hw, hw2⟩ := hlg at' hat
      obtain ⟨hlt, hwe⟩ := List.getElem?_eq_some_iff.mp hw
      have hwm := pk2 w (List.mem_of_getElem? hw)
      have hn2 := hwm.2 hw2
      have hwl := hwm.1.1
      simp [law_31]
      refine ixD_int (by omega) (by omega) ?_
      simp
      refine ixD_map h0 (by omega) fun hh => ?_
      rw [hwe]
      simp [rowD]
      refine And.intro hw2 ?_
      have hk : 0 ≤ gi dr 9 % (w.ti.length : Int) ∧ gi dr 9 % (w.ti.length : Int) < w.ti.length := ⟨Int.emod_nonneg _ (by omega), Int.emod_lt_of_pos _ (by omega)⟩
      generalize gi dr 9 % (w.ti.length : Int) = k' at hk ⊢
      simp [law_32]
      refine ixD_map h0 (by omega) fun hh => ?_
      rw [hwe]
      simp [rowD]
      refine ixD_int hk.1 (by omega) ?_
      simp
      refine ixD_int (by omega) (by omega) ?_
      simp
      refine And.intro (by omega) (And.intro (by omega) ?_)
      generalize (gi w.pl k'.toNat + 1 + gi dr 10 % (n - 1)) % n = oth
      simp [law_33]
      refine call_of (s := sp_law_about_costs) (⟨n, ed, cs, zs, os, rows⟩, at', k') ⟨rfl, few_base few, h0, hk.1, w, hw, hk.2⟩ ?_
      rintro t ⟨qs1, rfl, lq1, hq1⟩
      simp
      refine And.intro (by omega) ?_
      refine call_of (s := sp_law_about_rows) (⟨n, ed, cs, zs, os, rows⟩, at', k', _) ⟨rfl, few_base few, h0, hk.1, w, hw, hk.2⟩ ?_
      rintro t ⟨qs2, rfl, lq2, hq2⟩
      simp
      refine And.intro (by omega) ?_
      have := m34 (qs ++ (qs1 ++ qs2)) (.own none (.s (.int k'))) (.own none (.s (dI lg))) (.own none (.s (.int at'))) (.own none (.s (.int oth))) (by simp; omega) fun q hq3 => by
        rcases List.mem_append.mp hq3 with z | z
        · exact hq q z
        · rcases List.mem_append.mp z with z | z
          · exact hq1 q z
          · exact hq2 q z
      rw [List.map_append, List.map_append] at this
      first
        | exact this
        | simpa using this
    · exact m34 qs _ _ _ _ (by omega) hq
  have hb : ∀ qs : List Qn, (∀ q ∈ qs, WFQ q) → ∀ q ∈ (⟨n, ed, cs, zs, os, rows⟩ :: qs : List Qn), WFQ q := fun qs h q hq => by
    cases hq with
    | head => exact few_wf few
    | tail _ hq => exact h q hq
  simp [law_23, law_24]
  split
  · rename_i c
    simp [law_25]
    refine ixD_int (by omega) (by omega) ?_
    try simp
    refine And.intro c ?_
    refine ixD_int (Int.emod_nonneg _ (by omega)) (Int.emod_lt_of_pos _ (by omega)) ?_
    try simp
    refine call_of (s := sp_law_about_few) (⟨n, ed, cs, zs, os, rows⟩, one, two, _) ⟨rfl, few⟩ ?_
    rintro t ⟨qs, rfl, lq, hq⟩
    try simp
    refine And.intro (by omega) ?_
    exact m28 (⟨n, ed, cs, zs, os, rows⟩ :: qs) (by simp; omega) (hb qs hq)
  · simp [law_27]
    refine call_of (s := sp_law_about_few) (⟨n, ed, cs, zs, os, rows⟩, one, one, one) ⟨rfl, few⟩ ?_
    rintro t ⟨qs, rfl, lq, hq⟩
    try simp
    refine And.intro (by omega) ?_
    exact m28 (⟨n, ed, cs, zs, os, rows⟩ :: qs) (by simp; omega) (hb qs hq)
end K05

namespace K05
open PySem L2 PL
theorem run19 (ns : List Int) (n : Int) (es : List (List Int)) (dr : List Int) (one two : Int) (rest : List Int) (ed : List (List Int)) (rows : List Rw) (ro us : List Int) (cs : List (Option Int)) (o : Option D) (post : T → Prop) (hp : post (.s (.bl true)))
    (n1 : 1 ≤ n) (n2 : n ≤ 100) (led : ed.length ≤ 64) (pk1 : rows.length ≤ 200) (pk2 : ∀ r ∈ rows, DR ed.length r ∧ (0 < r.ti.length → 2 ≤ n)) (lcs : cs.length = ed.length) (hl : dr.length = 13) (d0 : 0 ≤ gi dr 0 ∧ gi dr 0 < 4) (d3 : 0 ≤ gi dr 3 ∧ gi dr 3 < 60) (d5 : 0 ≤ gi dr 5 ∧ gi dr 5 < 9) (d8 : 0 ≤ gi dr 8 ∧ gi dr 8 < 600) (d9 : 0 ≤ gi dr 9 ∧ gi dr 9 < 60) (ho : 0 ≤ one ∧ one < n) :
    law_19 { nx := fun _ => post (.s .non), rt := fun t _ => post t } [.own none (.s (.node .ro (ns.map .int))), .own none (.s (.node .lst [.int n, .node .lst (es.map dI)])), .own none (.s (.int n)), .own none (.s (dI dr)), .own none (.s (.int one)), .own none (.s (.int two)), .own none (.s (dI rest)), .own none (.s (.node .lst (ed.map dI))), .own none (tRs rows), .own none (.s (dI ro)), .own none (.s (dI us)), .own none (.node .lst (cs.map fun c => T.s (optD c))), fc o, .un, .un, .un, .un, .un, .un, .un, .un, .un, .un] := by
  have hz := sizeLine_eq
  have held : ∀ (cs : List Int) (K : T → Prop), (∀ rs, Inr n rs → K (tI rs)) → callP sp_law_held [.int n, dI cs] K := fun cs K h => call_of (s := sp_law_held) (n, cs) ⟨rfl, by omega, by omega⟩ fun t ⟨rs, e, q⟩ => by rw [e]; exact h rs q
  have wr : ∀ x ∈ rows, WFR x := fun x hx => dr_wf (pk2 x hx).1
  have hpl : ∀ i (h : i < rows.length), 0 < rows[i].pl.length := fun i h => by have := (pk2 _ (List.getElem_mem h)).1.1; omega
  simp [law_19]
  refine lc_all (fun x : Int => .s (.int x)) (fun _ => True) (.inl rfl) (fun i d Y N e hi y z => ?_) fun f1 lf1 _ => ?_
  · obtain ⟨hi', rfl⟩ := map_some e
    have := hpl i hi'
    simp [rowD]
    refine ixD_int (by omega) (by omega) ?_
    simp
    exact z _ trivial
  simp
  refine ixD_int (by omega) (by omega) ?_
  simp
  have lf : f1.length ≤ 200 := by simp at lf1; omega
  refine And.intro (by omega) (And.intro (by omega) ?_)
  have eh : (List.map (fun a => D.int a) f1 ++ [D.int (gi dr 7 % n)]) = (f1 ++ [gi dr 7 % n]).map D.int := by rw [List.map_append]; rfl
  rw [eh]
  refine held _ _ fun zs hzs => ?_
  simp [law_20]
  refine ixD_int (by omega) (by omega) ?_
  have hm2 : 0 ≤ gi dr 5 % 2 := Int.emod_nonneg _ (by decide)
  simp [cutL_to hm2]
  have lz := hzs.1
  refine And.intro (by omega) ?_
  have ez : (List.map (fun a => D.int a) zs ++ List.take (gi dr 5 % 2).toNat (List.map (fun a => D.int a) zs)) = (zs ++ zs.take (gi dr 5 % 2).toNat).map D.int := by rw [List.map_append, List.map_take]
  rw [ez]
  have lz2 : (zs ++ zs.take (gi dr 5 % 2).toNat).length ≤ 200 := by simp; omega
  generalize zs ++ zs.take (gi dr 5 % 2).toNat = zs2 at lz2 ⊢
  simp [law_21]
  refine lc_all (fun x : Int => .s (.int x)) (fun _ => True) (.inl rfl) (fun i d Y N e hi y z => ?_) fun f2 lf2 _ => ?_
  · obtain ⟨hi', rfl⟩ := map_some e
    have := hpl i hi'
    simp [rowD]
    refine ixD_int (by omega) (by omega) ?_
    simp
    exact z _ trivial
  simp
  refine ixD_int (by omega) (by omega) ?_
  simp
  have lf2' : f2.length ≤ 200 := by simp at lf2; omega
  refine And.intro (by omega) (And.intro (by omega) ?_)
  have eh2 : (List.map (fun a => D.int a) f2 ++ [D.int (gi dr 4 % n)]) = (f2 ++ [gi dr 4 % n]).map D.int := by rw [List.map_append]; rfl
  rw [eh2]
  refine held _ _ fun os hos => ?_
  simp [law_22]
  rw [← List.map_reverse]
  exact run23 ns n es dr one two rest ed rows ro us cs o zs2 os.reverse post hp n1 n2 led pk1 pk2 lcs hl d0 d3 d8 d9 (by omega) (by rw [List.length_reverse]; have := hos.1; omega)
end K05

namespace K05
open PySem L2 PL
theorem rep_len2 (a b : Int) : ∀ m : Nat, (List.replicate m [a, b]).flatten.length = 2 * m
  | 0 => rfl
  | m + 1 => by rw [List.replicate_succ, List.flatten_cons, List.length_append, rep_len2 a b m]; simp; omega
theorem rep_gi (a b : Int) : ∀ m k : Nat, k < m → gi (List.replicate m [a, b]).flatten (2 * k) = a ∧ gi (List.replicate m [a, b]).flatten (2 * k + 1) = b
  | 0, k, h => by omega
  | m + 1, 0, h => ⟨rfl, rfl⟩
  | m + 1, k + 1, h => by
    rw [List.replicate_succ, List.flatten_cons]
    have := rep_gi a b m k (by omega)
    rw [gi_right (by simp; omega), gi_right (by simp; omega)]
    have e1 : 2 * (k + 1) - [a, b].length = 2 * k := by simp; omega
    have e2 : 2 * (k + 1) + 1 - [a, b].length = 2 * k + 1 := by simp; omega
    rw [e1, e2]
    exact this
theorem rep_mem (a b : Int) : ∀ m : Nat, ∀ s ∈ (List.replicate m [a, b]).flatten, s = a ∨ s = b
  | 0, s, h => nomatch h
  | m + 1, s, h => by
    rw [List.replicate_succ, List.flatten_cons] at h
    rcases List.mem_append.mp h with z | z
    · simpa using z
    · exact rep_mem a b m s z
theorem len_law : ∀ ds a, sp_law.pre ds a → ds.length = 1 := fun ds ns ⟨h, _⟩ => by rw [h]; rfl
theorem law_run (ns : List Int) (h1 : ns.length ≤ 63) : law_1 { nx := fun _ => sp_law.post ns (.s .non), rt := fun t _ => sp_law.post ns t } (startP N_law [.node .ro (ns.map .int)]) := by
  show law_1 _ [.own none (.s (.node .ro (ns.map .int))), .un, .un, .un, .un, .un, .un, .un, .un, .un, .un, .un, .un, .un, .un, .un, .un, .un, .un, .un, .un, .un, .un]
  generalize hpost : sp_law.post ns = post
  have hp : post (.s (.bl true)) := by rw [← hpost]; exact rfl
  have cell : ∀ (k : Int) (K : T → Prop), 0 ≤ k → k ≤ 1000 → (∀ z, K (.s (.int z))) → callP sp_law_cell [.node .ro (ns.map .int), .int k] K := fun k K a b h => call_of (s := sp_law_cell) (ns, k) ⟨rfl, h1, a, b⟩ fun t ⟨z, e⟩ => by rw [e]; exact h z
  have hz := sizeLine_eq
  simp [law_1]
  refine call_of (s := sp_law_net) (ns, 0) ⟨rfl, h1, by decide, by decide⟩ ?_
  rintro t ⟨n, es, rfl, n1, n2, l1, hes⟩
  have held : ∀ (cs : List Int) (K : T → Prop), (∀ rs, Inr n rs → K (tI rs)) → callP sp_law_held [.int n, dI cs] K := fun cs K h => call_of (s := sp_law_held) (n, cs) ⟨rfl, by omega, by omega⟩ fun t ⟨rs, e, q⟩ => by rw [e]; exact h rs q
  simp [law_2, law_3]
  refine cell _ _ (by decide) (by decide) fun z => ?_
  simp
  refine call_of (s := sp_law_digits) (z, [4, 60, 60, 60, 60, 9, 4, 60, 600, 60, 60, 8, 30]) ⟨rfl, by simp, fun s hs => by simp at hs; omega⟩ ?_
  rintro t ⟨dr, rfl, hd⟩
  have hl : dr.length = 13 := hd.1
  have d0 : 0 ≤ gi dr 0 ∧ gi dr 0 < 4 := hd.2 0 (by simp)
  have d1 : 0 ≤ gi dr 1 ∧ gi dr 1 < 60 := hd.2 1 (by simp)
  have d2 : 0 ≤ gi dr 2 ∧ gi dr 2 < 60 := hd.2 2 (by simp)
  have d3 : 0 ≤ gi dr 3 ∧ gi dr 3 < 60 := hd.2 3 (by simp)
  have d5 : 0 ≤ gi dr 5 ∧ gi dr 5 < 9 := hd.2 5 (by simp)
  have d6 : 0 ≤ gi dr 6 ∧ gi dr 6 < 4 := hd.2 6 (by simp)
  have d8 : 0 ≤ gi dr 8 ∧ gi dr 8 < 600 := hd.2 8 (by simp)
  have d9 : 0 ≤ gi dr 9 ∧ gi dr 9 < 60 := hd.2 9 (by simp)
  have d12 : 0 ≤ gi dr 12 ∧ gi dr 12 < 30 := hd.2 12 (by simp)
  clear hd
  simp [law_4]
  refine ixD_int (by omega) (by omega) ?_
  simp
  refine And.intro (by omega) ?_
  have ho : 0 ≤ gi dr 1 % n ∧ gi dr 1 % n < n := ⟨Int.emod_nonneg _ (by omega), Int.emod_lt_of_pos _ (by omega)⟩
  generalize gi dr 1 % n = one at ho ⊢
  simp [law_5]
  refine ixD_int (by omega) (by omega) ?_
  simp
  refine And.intro (by split <;> omega) (And.intro (by omega) ?_)
  generalize hx : (one + 1 + _) % n = two
  have ht : 0 ≤ two ∧ two < n := by rw [← hx]; exact ⟨Int.emod_nonneg _ (by omega), Int.emod_lt_of_pos _ (by omega)⟩
  clear hx
  simp [law_6]
  refine And.intro (by omega) ?_
  refine lc_all (fun r : Int => .s (.int r)) (fun _ => True) (.inr (by simp; omega)) (fun i d Y N e hi y z => ?_) fun rest lr _ => ?_
  · obtain ⟨rfl, hi⟩ := rngL_some e
    simp
    split
    · exact y
    · split
      · exact y
      · exact z _ trivial
  simp [law_7]
  refine held [one, two] _ fun hrs hh => ?_
  simp
  refine And.intro (by omega) ?_
  have e7 : (List.map (fun a => dI a) es ++ [D.node .lst (List.map (fun a => D.int a) hrs)]) = (es ++ [hrs]).map dI := by rw [List.map_append]; rfl
  rw [e7]
  have l7 : (es ++ [hrs]).length = es.length + 1 := by simp
  generalize es ++ [hrs] = ed at l7 ⊢
  clear e7
  simp [law_8]
  refine lc_all (fun r : Rw => .s (rowD r)) (fun r => DR ed.length r ∧ (0 < r.ti.length → 2 ≤ n)) (.inr (by simp)) (fun i d Y N e hi y z => ?_) fun p0 lp0 hp0 => ?_
  · obtain ⟨rfl, hi⟩ := rngL_some e
    simp
    refine cell _ _ (by omega) (by omega) fun z' => ?_
    simp
    refine call_of (s := sp_law_drawn_row) (n, es, z') ⟨rfl, n1, n2, by omega, hes⟩ ?_
    rintro t ⟨r, rfl, hr, hr2⟩
    simp
    exact z r ⟨by rw [l7]; exact dr_mono hr, hr2⟩
  have pk0 : p0.length ≤ 3 := by simpa using lp0
  have m14 : ∀ rows : List Rw, Pk ed.length n rows → law_14 { nx := fun _ => post (.s .non), rt := fun t _ => post t } [.own none (.s (.node .ro (ns.map .int))), .own none (.s (.node .lst [.int n, .node .lst (es.map dI)])), .own none (.s (.int n)), .own none (.s (dI dr)), .own none (.s (.int one)), .own none (.s (.int two)), .own none (.s (dI rest)), .own none (.s (.node .lst (ed.map dI))), .own none (tRs rows), .un, .un, .un, .un, .un, .un, .un, .un, .un, .un, .un, .un, .un, .un] := fun rows ⟨pk1, pk2⟩ => by
    simp [law_14]
    refine cell _ _ (by decide) (by decide) fun z' => ?_
    simp
    refine And.intro ⟨by omega, by omega⟩ ?_
    have e14 : (List.replicate ed.length [D.int 6, D.int 1000000000000]).flatten = ((List.replicate ed.length [6, 1000000000000]).flatten).map D.int := rep_map D.int [6, 1000000000000] _
    rw [e14]
    refine call_of (s := sp_law_digits) (z', (List.replicate ed.length [6, 1000000000000]).flatten) ⟨rfl, by rw [rep_len2]; omega, fun s hs => by rcases rep_mem _ _ _ s hs with z | z <;> rw [z] <;> decide⟩ ?_
    rintro t ⟨ro, rfl, hd⟩
    have hrl : ro.length = 2 * ed.length := by rw [hd.1, rep_len2]
    have hr6 : ∀ k, k < ed.length → 0 ≤ gi ro (2 * k) ∧ gi ro (2 * k) < 6 := fun k hk => by
      have := hd.2 (2 * k) (by simp only; rw [rep_len2]; omega)
      simp only at this
      rw [(rep_gi 6 1000000000000 ed.length k hk).1] at this
      exact this
    clear hd e14
    simp [law_15]
    refine call_of (s := sp_law_used) (ed, rows) ⟨rfl, fun r hr => (pk2 r hr).1.2.2⟩ ?_
    rintro t rfl
    have hul := usedOf_len ed.length rows
    generalize usedOf ed.length rows = us at hul ⊢
    simp [law_16, law_17]
    refine And.intro (imm_ints us) (And.intro (by omega) ?_)
    refine loop_rel (ι := List (Option Int) × Option D) (fun s => [(11, .own none (.node .lst (s.1.map fun c => .s (optD c)))), (12, fc s.2)]) (fun k s => s.1.length = k) ([], none) rfl (by simp) ?_ ?_
    · rintro k d ⟨cs, o⟩ hk hkl i1
      obtain ⟨rfl, hk'⟩ := rngL_some hk
      have hk' : k < ed.length := by simpa using hk'
      simp only at i1
      have := hr6 k hk'
      have e2 : (2 * (k : Int)).toNat = 2 * k := by omega
      have e3 : (2 * (k : Int) + 1).toNat = 2 * k + 1 := by omega
      simp [law_18]
      refine And.intro (by omega) ?_
      refine ixD_int (by omega) (by omega) ?_
      simp
      refine ixD_int (by omega) (by omega) ?_
      simp
      refine ixD_int (by omega) (by omega) ?_
      simp
      refine ixD_int (by omega) (by omega) ?_
      simp
      refine ixD_int (by omega) (by omega) ?_
      simp [e3]
      refine ixD_int (by omega) (by omega) ?_
      simp
      refine ixD_int (by omega) (by omega) ?_
      simp [e2]
      refine ixT_map (n := gi ro (2 * k)) (f := fun c => T.s (optD c)) (xs := [some (gi us k), some (gi us k), some (gi us k + 1), some (gi us k + gi ro (2 * k + 1)), none, some (gi us k + 5)]) (by omega) (by simp; omega) fun hh => ?_
      simp only [kidR_va, kidR_s]
      generalize ([some (gi us k), some (gi us k), some (gi us k + 1), some (gi us k + gi ro (2 * k + 1)), none, some (gi us k + 5)] : List (Option Int))[(gi ro (2 * k)).toNat] = c
      simp
      refine nxt (cs ++ [c], some _) (by simp [i1]) (by simp <;> rfl)
    · rintro ⟨cs, o⟩ i1
      simp at i1
      exact run19 ns n es dr one two rest ed rows ro us cs o post hp n1 n2 (by omega) pk1 pk2 i1 hl d0 d3 d5 d8 d9 ho
  have m12 : ∀ rows : List Rw, rows.length ≤ 4 → (∀ r ∈ rows, DR ed.length r ∧ (0 < r.ti.length → 2 ≤ n)) → law_12 { nx := fun _ => post (.s .non), rt := fun t _ => post t } [.own none (.s (.node .ro (ns.map .int))), .own none (.s (.node .lst [.int n, .node .lst (es.map dI)])), .own none (.s (.int n)), .own none (.s (dI dr)), .own none (.s (.int one)), .own none (.s (.int two)), .own none (.s (dI rest)), .own none (.s (.node .lst (ed.map dI))), .own none (tRs rows), .un, .un, .un, .un, .un, .un, .un, .un, .un, .un, .un, .un, .un, .un] := fun rows l4 hr => by
    simp [law_12]
    refine ixD_int (by omega) (by omega) ?_
    simp
    split
    · simp [law_13]
      refine ixD_int (by omega) (by omega) ?_
      simp
      have lm : rows.length * (2 + gi dr 12).toNat ≤ 200 := Nat.le_trans (Nat.mul_le_mul l4 (show (2 + gi dr 12).toNat ≤ 31 by omega)) (by decide)
      refine And.intro ⟨by omega, by omega, by rw [hz]; exact Nat.le_trans lm (by decide)⟩ ?_
      have := m14 (List.replicate (2 + gi dr 12).toNat rows).flatten ⟨by rw [rep_len, Nat.mul_comm]; exact lm, fun r hr' => by
        obtain ⟨l, hl1, hl2⟩ := List.mem_flatten.mp hr'
        rw [List.mem_replicate] at hl1
        rw [hl1.2] at hl2
        exact hr r hl2⟩
      have e13 : (List.replicate (2 + gi dr 12).toNat (rows.map fun r => T.s (rowD r))).flatten = (List.replicate (2 + gi dr 12).toNat rows).flatten.map fun r => T.s (rowD r) := rep_map _ _ _
      rw [e13]
      exact this
    · exact m14 rows ⟨by omega, hr⟩
  simp [law_9]
  split
  · exact m12 p0 (by omega) hp0
  rename_i hne
  simp [law_10]
  refine And.intro (by omega) ?_
  refine ixD_int (by omega) (by omega) ?_
  simp
  have e10 : (List.map (fun r => T.s (rowD r)) p0 ++ [T.s (D.node .lst [D.int (1 + gi dr 5), D.node .lst [D.int one, D.int two], D.node .lst [D.int es.length]])]) = (p0 ++ [(⟨1 + gi dr 5, [one, two], [(es.length : Int)]⟩ : Rw)]).map fun r => T.s (rowD r) := by rw [List.map_append]; rfl
  have l10 : (p0 ++ [(⟨1 + gi dr 5, [one, two], [(es.length : Int)]⟩ : Rw)]).length ≤ 4 := by simp; omega
  have r10 : ∀ r ∈ p0 ++ [(⟨1 + gi dr 5, [one, two], [(es.length : Int)]⟩ : Rw)], DR ed.length r ∧ (0 < r.ti.length → 2 ≤ n) := fun r hr => by
    rcases List.mem_append.mp hr with z | z
    · exact hp0 r z
    · rw [List.mem_singleton.mp z]
      exact ⟨⟨rfl, by simp, fun j hj => by rw [List.mem_singleton.mp hj]; omega⟩, fun _ => by omega⟩
  rw [e10]
  generalize p0 ++ [(⟨1 + gi dr 5, [one, two], [(es.length : Int)]⟩ : Rw)] = p1 at l10 r10 ⊢
  simp [law_11]
  refine ixD_int (by omega) (by omega) ?_
  simp [cutL_from d6.1]
  refine ixD_int (by omega) (by omega) ?_
  simp [cutL_to d6.1]
  refine And.intro (by omega) ?_
  have := m12 (p1.drop (gi dr 6).toNat ++ p1.take (gi dr 6).toNat) (by simp; omega) fun r hr => by
    rcases List.mem_append.mp hr with z | z
    · exact r10 r (List.mem_of_mem_drop z)
    · exact r10 r (List.mem_of_mem_take z)
  simpa [tRs, List.map_drop, List.map_take] using this
theorem pu_law (ds a) (pre : sp_law.pre ds a) : law_1 { nx := fun _ => sp_law.post a (.s .non), rt := fun t _ => sp_law.post a t } (startP N_law ds) := by
  obtain ⟨e, h1⟩ := pre
  subst e
  exact law_run a h1
end K05

namespace K05
open PySem L2 PL
def topS (i : Nat) : Stmt := PySem.Challenge.pw_whywait_k05_packing_judge.main.body.getD i (.Pass ⟨0, 0, 0, 0⟩)
abbrev s_is_row : Stmt := topS 1
theorem sc_is_row : FnScope N_is_row ["nodes", "edges", "row"] (defScope s_is_row) := ⟨rfl, rfl, rfl, by decide +kernel, rfl, by decide +kernel, by decide +kernel⟩
abbrev s_has_double : Stmt := topS 3
theorem sc_has_double : FnScope N_has_double ["items"] (defScope s_has_double) := ⟨rfl, rfl, rfl, by decide +kernel, rfl, by decide +kernel, by decide +kernel⟩
abbrev s_is_packing : Stmt := topS 4
theorem sc_is_packing : FnScope N_is_packing ["nodes", "edges", "costs", "zeros", "ones", "packing"] (defScope s_is_packing) := ⟨rfl, rfl, rfl, by decide +kernel, rfl, by decide +kernel, by decide +kernel⟩
abbrev s_law_cell : Stmt := topS 7
theorem sc_law_cell : FnScope N_law_cell ["script", "k"] (defScope s_law_cell) := ⟨rfl, rfl, rfl, by decide +kernel, rfl, by decide +kernel, by decide +kernel⟩
abbrev s_law_digits : Stmt := topS 8
theorem sc_law_digits : FnScope N_law_digits ["cell", "sizes"] (defScope s_law_digits) := ⟨rfl, rfl, rfl, by decide +kernel, rfl, by decide +kernel, by decide +kernel⟩
abbrev s_law_held : Stmt := topS 9
theorem sc_law_held : FnScope N_law_held ["nodes", "chosen"] (defScope s_law_held) := ⟨rfl, rfl, rfl, by decide +kernel, rfl, by decide +kernel, by decide +kernel⟩
abbrev s_law_small_edge : Stmt := topS 10
theorem sc_law_small_edge : FnScope N_law_small_edge ["cell", "nodes", "edges", "loose"] (defScope s_law_small_edge) := ⟨rfl, rfl, rfl, by decide +kernel, rfl, by decide +kernel, by decide +kernel⟩
abbrev s_law_wide_edges : Stmt := topS 11
theorem sc_law_wide_edges : FnScope N_law_wide_edges ["cell", "nodes"] (defScope s_law_wide_edges) := ⟨rfl, rfl, rfl, by decide +kernel, rfl, by decide +kernel, by decide +kernel⟩
abbrev s_law_net : Stmt := topS 12
theorem sc_law_net : FnScope N_law_net ["script", "at"] (defScope s_law_net) := ⟨rfl, rfl, rfl, by decide +kernel, rfl, by decide +kernel, by decide +kernel⟩
abbrev s_law_form : Stmt := topS 13
theorem sc_law_form : FnScope N_law_form ["rows", "form"] (defScope s_law_form) := ⟨rfl, rfl, rfl, by decide +kernel, rfl, by decide +kernel, by decide +kernel⟩
abbrev s_law_drawn_row : Stmt := topS 14
theorem sc_law_drawn_row : FnScope N_law_drawn_row ["nodes", "edges", "cell"] (defScope s_law_drawn_row) := ⟨rfl, rfl, rfl, by decide +kernel, rfl, by decide +kernel, by decide +kernel⟩
abbrev s_law_used : Stmt := topS 15
theorem sc_law_used : FnScope N_law_used ["edges", "packing"] (defScope s_law_used) := ⟨rfl, rfl, rfl, by decide +kernel, rfl, by decide +kernel, by decide +kernel⟩
abbrev s_law_packing : Stmt := topS 16
theorem sc_law_packing : FnScope N_law_packing ["question"] (defScope s_law_packing) := ⟨rfl, rfl, rfl, by decide +kernel, rfl, by decide +kernel, by decide +kernel⟩
abbrev s_law_paper : Stmt := topS 17
theorem sc_law_paper : FnScope N_law_paper ["packing", "form"] (defScope s_law_paper) := ⟨rfl, rfl, rfl, by decide +kernel, rfl, by decide +kernel, by decide +kernel⟩
abbrev s_law_asked : Stmt := topS 18
theorem sc_law_asked : FnScope N_law_asked ["question", "form"] (defScope s_law_asked) := ⟨rfl, rfl, rfl, by decide +kernel, rfl, by decide +kernel, by decide +kernel⟩
abbrev s_law_with : Stmt := topS 19
theorem sc_law_with : FnScope N_law_with ["packing", "at", "amount", "places", "ties"] (defScope s_law_with) := ⟨rfl, rfl, rfl, by decide +kernel, rfl, by decide +kernel, by decide +kernel⟩
abbrev s_law_cost : Stmt := topS 20
theorem sc_law_cost : FnScope N_law_cost ["costs", "number", "cost"] (defScope s_law_cost) := ⟨rfl, rfl, rfl, by decide +kernel, rfl, by decide +kernel, by decide +kernel⟩
abbrev s_law_about_costs : Stmt := topS 21
theorem sc_law_about_costs : FnScope N_law_about_costs ["base", "at", "k"] (defScope s_law_about_costs) := ⟨rfl, rfl, rfl, by decide +kernel, rfl, by decide +kernel, by decide +kernel⟩
abbrev s_law_about_rows : Stmt := topS 22
theorem sc_law_about_rows : FnScope N_law_about_rows ["base", "at", "k", "other"] (defScope s_law_about_rows) := ⟨rfl, rfl, rfl, by decide +kernel, rfl, by decide +kernel, by decide +kernel⟩
abbrev s_law_about_few : Stmt := topS 23
theorem sc_law_about_few : FnScope N_law_about_few ["base", "one", "two", "three"] (defScope s_law_about_few) := ⟨rfl, rfl, rfl, by decide +kernel, rfl, by decide +kernel, by decide +kernel⟩
abbrev s_law : Stmt := topS 24
theorem sc_law : FnScope N_law ["script"] (defScope s_law) := ⟨rfl, rfl, rfl, by decide +kernel, rfl, by decide +kernel, by decide +kernel⟩
structure Txt (K : PySem.W.Frag) (mg : Str → Option Value) where
  len : mg "len" = none
  int : mg "int" = none
  abs : mg "abs" = none
  sum : mg "sum" = none
  min : mg "min" = none
  max : mg "max" = none
  list : mg "list" = none
  tuple : mg "tuple" = none
  sorted : mg "sorted" = none
  isinstance : mg "isinstance" = none
  range : mg "range" = none
  set : mg "set" = none
  bool : mg "bool" = none
  str : mg "str" = none
  dict : mg "dict" = none
  enumerate : mg "enumerate" = none
  f_is_row : Addr
  d_is_row : FuncData
  F_is_row : Fun K "is_row" "is_row" s_is_row f_is_row d_is_row
  m_is_row : mg "is_row" = some (.ref f_is_row)
  b_is_row : Binds K d_is_row ["nodes", "edges", "row"] []
  f_has_double : Addr
  d_has_double : FuncData
  F_has_double : Fun K "has_double" "has_double" s_has_double f_has_double d_has_double
  m_has_double : mg "has_double" = some (.ref f_has_double)
  b_has_double : Binds K d_has_double ["items"] []
  f_is_packing : Addr
  d_is_packing : FuncData
  F_is_packing : Fun K "is_packing" "is_packing" s_is_packing f_is_packing d_is_packing
  m_is_packing : mg "is_packing" = some (.ref f_is_packing)
  b_is_packing : Binds K d_is_packing ["nodes", "edges", "costs", "zeros", "ones", "packing"] []
  f_law_cell : Addr
  d_law_cell : FuncData
  F_law_cell : Fun K "_law_cell" "_law_cell" s_law_cell f_law_cell d_law_cell
  m_law_cell : mg "_law_cell" = some (.ref f_law_cell)
  b_law_cell : Binds K d_law_cell ["script", "k"] []
  f_law_digits : Addr
  d_law_digits : FuncData
  F_law_digits : Fun K "_law_digits" "_law_digits" s_law_digits f_law_digits d_law_digits
  m_law_digits : mg "_law_digits" = some (.ref f_law_digits)
  b_law_digits : Binds K d_law_digits ["cell", "sizes"] []
  f_law_held : Addr
  d_law_held : FuncData
  F_law_held : Fun K "_law_held" "_law_held" s_law_held f_law_held d_law_held
  m_law_held : mg "_law_held" = some (.ref f_law_held)
  b_law_held : Binds K d_law_held ["nodes", "chosen"] []
  f_law_small_edge : Addr
  d_law_small_edge : FuncData
  F_law_small_edge : Fun K "_law_small_edge" "_law_small_edge" s_law_small_edge f_law_small_edge d_law_small_edge
  m_law_small_edge : mg "_law_small_edge" = some (.ref f_law_small_edge)
  b_law_small_edge : Binds K d_law_small_edge ["cell", "nodes", "edges", "loose"] []
  f_law_wide_edges : Addr
  d_law_wide_edges : FuncData
  F_law_wide_edges : Fun K "_law_wide_edges" "_law_wide_edges" s_law_wide_edges f_law_wide_edges d_law_wide_edges
  m_law_wide_edges : mg "_law_wide_edges" = some (.ref f_law_wide_edges)
  b_law_wide_edges : Binds K d_law_wide_edges ["cell", "nodes"] []
  f_law_net : Addr
  d_law_net : FuncData
  F_law_net : Fun K "_law_net" "_law_net" s_law_net f_law_net d_law_net
  m_law_net : mg "_law_net" = some (.ref f_law_net)
  b_law_net : Binds K d_law_net ["script", "at"] []
  f_law_form : Addr
  d_law_form : FuncData
  F_law_form : Fun K "_law_form" "_law_form" s_law_form f_law_form d_law_form
  m_law_form : mg "_law_form" = some (.ref f_law_form)
  b_law_form : Binds K d_law_form ["rows", "form"] []
  f_law_drawn_row : Addr
  d_law_drawn_row : FuncData
  F_law_drawn_row : Fun K "_law_drawn_row" "_law_drawn_row" s_law_drawn_row f_law_drawn_row d_law_drawn_row
  m_law_drawn_row : mg "_law_drawn_row" = some (.ref f_law_drawn_row)
  b_law_drawn_row : Binds K d_law_drawn_row ["nodes", "edges", "cell"] []
  f_law_used : Addr
  d_law_used : FuncData
  F_law_used : Fun K "_law_used" "_law_used" s_law_used f_law_used d_law_used
  m_law_used : mg "_law_used" = some (.ref f_law_used)
  b_law_used : Binds K d_law_used ["edges", "packing"] []
  f_law_packing : Addr
  d_law_packing : FuncData
  F_law_packing : Fun K "_law_packing" "_law_packing" s_law_packing f_law_packing d_law_packing
  m_law_packing : mg "_law_packing" = some (.ref f_law_packing)
  b_law_packing : Binds K d_law_packing ["question"] []
  f_law_paper : Addr
  d_law_paper : FuncData
  F_law_paper : Fun K "_law_paper" "_law_paper" s_law_paper f_law_paper d_law_paper
  m_law_paper : mg "_law_paper" = some (.ref f_law_paper)
  b_law_paper : Binds K d_law_paper ["packing", "form"] []
  f_law_asked : Addr
  d_law_asked : FuncData
  F_law_asked : Fun K "_law_asked" "_law_asked" s_law_asked f_law_asked d_law_asked
  m_law_asked : mg "_law_asked" = some (.ref f_law_asked)
  b_law_asked : Binds K d_law_asked ["question", "form"] []
  f_law_with : Addr
  d_law_with : FuncData
  F_law_with : Fun K "_law_with" "_law_with" s_law_with f_law_with d_law_with
  m_law_with : mg "_law_with" = some (.ref f_law_with)
  b_law_with : Binds K d_law_with ["packing", "at", "amount", "places", "ties"] []
  f_law_cost : Addr
  d_law_cost : FuncData
  F_law_cost : Fun K "_law_cost" "_law_cost" s_law_cost f_law_cost d_law_cost
  m_law_cost : mg "_law_cost" = some (.ref f_law_cost)
  b_law_cost : Binds K d_law_cost ["costs", "number", "cost"] []
  f_law_about_costs : Addr
  d_law_about_costs : FuncData
  F_law_about_costs : Fun K "_law_about_costs" "_law_about_costs" s_law_about_costs f_law_about_costs d_law_about_costs
  m_law_about_costs : mg "_law_about_costs" = some (.ref f_law_about_costs)
  b_law_about_costs : Binds K d_law_about_costs ["base", "at", "k"] []
  f_law_about_rows : Addr
  d_law_about_rows : FuncData
  F_law_about_rows : Fun K "_law_about_rows" "_law_about_rows" s_law_about_rows f_law_about_rows d_law_about_rows
  m_law_about_rows : mg "_law_about_rows" = some (.ref f_law_about_rows)
  b_law_about_rows : Binds K d_law_about_rows ["base", "at", "k", "other"] []
  f_law_about_few : Addr
  d_law_about_few : FuncData
  F_law_about_few : Fun K "_law_about_few" "_law_about_few" s_law_about_few f_law_about_few d_law_about_few
  m_law_about_few : mg "_law_about_few" = some (.ref f_law_about_few)
  b_law_about_few : Binds K d_law_about_few ["base", "one", "two", "three"] []
  f_law : Addr
  d_law : FuncData
  F_law : Fun K "law" "law" s_law f_law d_law
  m_law : mg "law" = some (.ref f_law)
  b_law : Binds K d_law ["script"] []
end K05

namespace K05
open PySem L2 PL
section
variable {P : Program} {w : World} {K : PySem.W.Frag} {mg : Str → Option Value} {base : Heap} (T : Txt K mg)
theorem dv_is_row  {cdv : Value} {A : Around} {outer : List Env} {s1 : Shared} {H : Hp} {E : XK} (hr : Room 0 (cxOf CX0 P w K mg base N_is_row "is_row" (defScope s_is_row) T.f_is_row cdv A outer s1 H E).nox.A) :
    PDSs (cxOf CX0 P w K mg base N_is_row "is_row" (defScope s_is_row) T.f_is_row cdv A outer s1 H E).nox (defBody s_is_row) is_row_1 :=
  (dss_cons (ds_asgT (dg_tup (n := 0) rfl (dgs_cons (dg_name (i := 3) sc_is_row.nd rfl (by first | exact Or.inl rfl | exact Or.inr rfl)) (dgs_cons (dg_name (i := 4) sc_is_row.nd rfl (by first | exact Or.inl rfl | exact Or.inr rfl)) dgs_nil))) (dm_of (d_var (pv 2)))) (dss_cons (ds_if (tw (tw_or (t_eq hr (d_len (by rfl) T.len (da_cons (d_var (pv 3)) da_nil)) d_int) (tw_or1 (t_ne hr (d_len (by rfl) T.len (da_cons (d_var (pv 4)) da_nil)) (d_sub (d_len (by rfl) T.len (da_cons (d_var (pv 3)) da_nil)) d_int))))) (dss_one (ds_ret (dm_of d_bl))) dss_nil) (dss_cons (ds_for PassesOwn.never rfl (di_seq (d_var (pv 3))) (dg_name (i := 5) sc_is_row.nd rfl (by first | exact Or.inl rfl | exact Or.inr rfl)) (dss_one (ds_if (tw (tw_or (t_lt (d_var (pv 5)) d_int) (tw_or1 (t_ge (d_var (pv 5)) (d_var (pv 0)))))) (dss_one (ds_ret (dm_of d_bl))) dss_nil))) (dss_cons (ds_for PassesOwn.never rfl (di_rng1 (by rfl) T.range (d_len (by rfl) T.len (da_cons (d_var (pv 4)) da_nil))) (dg_name (i := 6) sc_is_row.nd rfl (by first | exact Or.inl rfl | exact Or.inr rfl)) (dss_cons (ds_if (tw (tw_or (t_lt (d_ix hr (d_var (pv 4)) (d_var (pv 6))) d_int) (tw_or1 (t_ge (d_ix hr (d_var (pv 4)) (d_var (pv 6))) (d_len (by rfl) T.len (da_cons (d_var (pv 1)) da_nil)))))) (dss_one (ds_ret (dm_of d_bl))) dss_nil) (dss_cons (ds_if (t_eq hr (d_ix hr (d_var (pv 3)) (d_var (pv 6))) (d_ix hr (d_var (pv 3)) (d_add (d_var (pv 6)) d_int))) (dss_one (ds_ret (dm_of d_bl))) dss_nil) (dss_one (ds_if (tw (tw_or (t_nin hr (d_ix hr (d_var (pv 3)) (d_var (pv 6))) (d_ix hr (d_var (pv 1)) (d_ix hr (d_var (pv 4)) (d_var (pv 6))))) (tw_or1 (t_nin hr (d_ix hr (d_var (pv 3)) (d_add (d_var (pv 6)) d_int)) (d_ix hr (d_var (pv 1)) (d_ix hr (d_var (pv 4)) (d_var (pv 6)))))))) (dss_one (ds_ret (dm_of d_bl))) dss_nil))))) (dss_one (ds_ret (dm_of d_bl)))))))
theorem dv_has_double  {cdv : Value} {A : Around} {outer : List Env} {s1 : Shared} {H : Hp} {E : XK} (hr : Room 0 (cxOf CX0 P w K mg base N_has_double "has_double" (defScope s_has_double) T.f_has_double cdv A outer s1 H E).nox.A) :
    PDSs (cxOf CX0 P w K mg base N_has_double "has_double" (defScope s_has_double) T.f_has_double cdv A outer s1 H E).nox (defBody s_has_double) has_double_1 :=
  (dss_one (ds_ret (dm_of (d_ne hr (d_kinds rfl (by rfl) T.len (by rfl) T.set (d_list (by rfl) T.list (d_var (pv 0)))) (d_len (by rfl) T.len (da_cons (d_var (pv 0)) da_nil))))))
theorem dv_is_packing (G_is_row : FnOk P w K mg base CX0 1 T.f_is_row T.d_is_row ["nodes", "edges", "row"] (spF K (spS sp_is_row.s))) (G_has_double : FnOk P w K mg base CX0 1 T.f_has_double T.d_has_double ["items"] (spF K (spS sp_has_double.s))) {cdv : Value} {A : Around} {outer : List Env} {s1 : Shared} {H : Hp} {E : XK} (hr : Room 1 (cxOf CX0 P w K mg base N_is_packing "is_packing" (defScope s_is_packing) T.f_is_packing cdv A outer s1 H E).nox.A) :
    PDSs (cxOf CX0 P w K mg base N_is_packing "is_packing" (defScope s_is_packing) T.f_is_packing cdv A outer s1 H E).nox (defBody s_is_packing) is_packing_1 :=
  (dss_cons (ds_setLc (i := 6) (own := [("edge", 11)]) rfl sc_is_packing.nd rfl rfl (sw_true rfl rfl rfl (by decide +kernel)) (di_seq (d_var (pv 1))) (blkOk_by (by kernel_rfl)) (by decide) (fun _ _ _ _ _ => (dg_name (i := 11) sc_is_packing.nd rfl (by first | exact Or.inl rfl | exact Or.inr rfl))) (fun _ _ _ _ _ => dts_nil) (fun _ _ _ _ _ => d_int)) (dss_cons (ds_for PassesOwn.never rfl (di_seq (d_var (pv 5))) (dg_tup (n := 0) rfl (dgs_cons (dg_name (i := 7) sc_is_packing.nd rfl (by first | exact Or.inl rfl | exact Or.inr rfl)) (dgs_cons (dg_name (i := 8) sc_is_packing.nd rfl (by first | exact Or.inl rfl | exact Or.inr rfl)) (dgs_cons (dg_name (i := 9) sc_is_packing.nd rfl (by first | exact Or.inl rfl | exact Or.inr rfl)) dgs_nil)))) (dss_cons (ds_if (tw (tw_or (t_lt (d_var (pv 7)) d_int) (tw_or1 (t_not (t_val (d_call G_is_row (spS_mono _) (hr.mono (by decide)) (by rfl) T.m_is_row T.F_is_row.kp T.b_is_row pass0 (da_cons (d_var (pv 0)) (da_cons (d_var (pv 1)) (da_cons (d_tup (da_cons (d_var (pv 8)) (da_cons (d_var (pv 9)) da_nil))) da_nil))))))))) (dss_one (ds_ret (dm_of d_bl))) dss_nil) (dss_cons (ds_if (tw (tw_or (t_val (d_call G_has_double (spS_mono _) (hr.mono (by decide)) (by rfl) T.m_has_double T.F_has_double.kp T.b_has_double pass0 (da_cons (d_var (pv 8)) da_nil))) (tw_or1 (t_val (d_call G_has_double (spS_mono _) (hr.mono (by decide)) (by rfl) T.m_has_double T.F_has_double.kp T.b_has_double pass0 (da_cons (d_var (pv 9)) da_nil)))))) (dss_one (ds_ret (dm_of d_bl))) dss_nil) (dss_cons (ds_if (tw (tw_or (t_nin hr (d_ix hr (d_var (pv 8)) d_int) (d_var (pv 3))) (tw_or1 (t_nin hr (d_ix hr (d_var (pv 8)) (d_neg d_int)) (d_var (pv 4)))))) (dss_one (ds_ret (dm_of d_bl))) dss_nil) (dss_one (ds_for PassesOwn.never rfl (di_seq (d_var (pv 9))) (dg_name (i := 10) sc_is_packing.nd rfl (by first | exact Or.inl rfl | exact Or.inr rfl)) (dss_one (ds_setI hr (dm_of (d_add (d_ix hr (d_var (pv 6)) (d_var (pv 10))) (d_var (pv 7)))) (d_var (pv 6)) (d_var (pv 10)))))))))) (dss_cons (ds_for PassesOwn.never rfl (di_rng1 (by rfl) T.range (d_len (by rfl) T.len (da_cons (d_var (pv 1)) da_nil))) (dg_name (i := 10) sc_is_packing.nd rfl (by first | exact Or.inl rfl | exact Or.inr rfl)) (dss_one (ds_if (tw (tw_and (t_isnt (d_ix hr (d_var (pv 2)) (d_var (pv 10))) d_non) (tw_and1 (t_gt (d_ix hr (d_var (pv 6)) (d_var (pv 10))) (d_ix hr (d_var (pv 2)) (d_var (pv 10))))))) (dss_one (ds_ret (dm_of d_bl))) dss_nil))) (dss_one (ds_ret (dm_of d_bl))))))
theorem dv_law_cell  {cdv : Value} {A : Around} {outer : List Env} {s1 : Shared} {H : Hp} {E : XK} (hr : Room 0 (cxOf CX0 P w K mg base N_law_cell "_law_cell" (defScope s_law_cell) T.f_law_cell cdv A outer s1 H E).nox.A) :
    PDSs (cxOf CX0 P w K mg base N_law_cell "_law_cell" (defScope s_law_cell) T.f_law_cell cdv A outer s1 H E).nox (defBody s_law_cell) law_cell_1 :=
  (dss_cons (ds_if (t_lt (d_var (pv 1)) (d_len (by rfl) T.len (da_cons (d_var (pv 0)) da_nil))) (dss_cons (ds_if (t_ge (d_ix hr (d_var (pv 0)) (d_var (pv 1))) (d_pow d_int d_int)) (dss_one (ds_ret (dm_of (d_intc (by rfl) T.int (da_cons (d_ix hr (d_var (pv 0)) (d_var (pv 1))) da_nil))))) dss_nil) (dss_one (ds_ret (dm_of (d_add (d_mul (d_mod (d_intc (by rfl) T.int (da_cons (d_ix hr (d_var (pv 0)) (d_var (pv 1))) da_nil)) d_int) d_int) (d_var (pv 1))))))) dss_nil) (dss_cons (ds_asg (i := 2) sc_law_cell.nd rfl (by first | exact Or.inl rfl | exact Or.inr rfl) (dm_of d_int)) (dss_cons (ds_for PassesOwn.never rfl (di_seq (d_var (pv 0))) (dg_name (i := 3) sc_law_cell.nd rfl (by first | exact Or.inl rfl | exact Or.inr rfl)) (dss_one (ds_asg (i := 2) sc_law_cell.nd rfl (by first | exact Or.inl rfl | exact Or.inr rfl) (dm_of (d_mod (d_intc (by rfl) T.int (da_cons (d_add (d_mul (d_var (pv 2)) d_int) (d_mod (d_intc (by rfl) T.int (da_cons (d_var (pv 3)) da_nil)) d_int)) da_nil)) d_int))))) (dss_one (ds_ret (dm_of (d_mod (d_intc (by rfl) T.int (da_cons (d_mul (d_mul (d_add (d_var (pv 2)) d_int) (d_add (d_var (pv 1)) d_int)) d_int) da_nil)) d_int)))))))
theorem dv_law_digits  {cdv : Value} {A : Around} {outer : List Env} {s1 : Shared} {H : Hp} {E : XK} (hr : Room 0 (cxOf CX0 P w K mg base N_law_digits "_law_digits" (defScope s_law_digits) T.f_law_digits cdv A outer s1 H E).nox.A) :
    PDSs (cxOf CX0 P w K mg base N_law_digits "_law_digits" (defScope s_law_digits) T.f_law_digits cdv A outer s1 H E).nox (defBody s_law_digits) law_digits_1 :=
  (dss_cons (ds_asg (i := 2) sc_law_digits.nd rfl (by first | exact Or.inl rfl | exact Or.inr rfl) (dm_of (d_lst da_nil))) (dss_cons (ds_asg (i := 3) sc_law_digits.nd rfl (by first | exact Or.inl rfl | exact Or.inr rfl) (dm_of (d_intc (by rfl) T.int (da_cons (d_var (pv 0)) da_nil)))) (dss_cons (ds_if (t_ge (d_var (pv 3)) (d_pow d_int d_int)) (dss_cons (ds_asg (i := 3) sc_law_digits.nd rfl (by first | exact Or.inl rfl | exact Or.inr rfl) (dm_of (d_sub (d_var (pv 3)) (d_pow d_int d_int)))) (dss_cons (ds_for PassesOwn.never rfl (di_seq (d_var (pv 1))) (dg_name (i := 4) sc_law_digits.nd rfl (by first | exact Or.inl rfl | exact Or.inr rfl)) (dss_cons (ds_app (d_var (pv 2)) (d_mod (d_intc (by rfl) T.int (da_cons (d_var (pv 3)) da_nil)) (d_var (pv 4)))) (dss_one (ds_asg (i := 3) sc_law_digits.nd rfl (by first | exact Or.inl rfl | exact Or.inr rfl) (dm_of (d_div (d_intc (by rfl) T.int (da_cons (d_var (pv 3)) da_nil)) (d_var (pv 4)))))))) (dss_one (ds_ret (dm_move (pv 2)))))) dss_nil) (dss_cons (ds_asg (i := 5) sc_law_digits.nd rfl (by first | exact Or.inl rfl | exact Or.inr rfl) (dm_of (d_mod (d_intc (by rfl) T.int (da_cons (d_var (pv 3)) da_nil)) d_int))) (dss_cons (ds_for PassesOwn.never rfl (di_rng1 (by rfl) T.range (d_len (by rfl) T.len (da_cons (d_var (pv 1)) da_nil))) (dg_name (i := 6) sc_law_digits.nd rfl (by first | exact Or.inl rfl | exact Or.inr rfl)) (dss_cons (ds_asg (i := 5) sc_law_digits.nd rfl (by first | exact Or.inl rfl | exact Or.inr rfl) (dm_of (d_mod (d_intc (by rfl) T.int (da_cons (d_add (d_add (d_mul (d_var (pv 5)) d_int) (d_mul d_int (d_var (pv 6)))) d_int) da_nil)) d_int))) (dss_cons (ds_asg (i := 7) sc_law_digits.nd rfl (by first | exact Or.inl rfl | exact Or.inr rfl) (dm_of (d_mod (d_intc (by rfl) T.int (da_cons (d_mul (d_var (pv 5)) (d_add (d_div (d_var (pv 5)) d_int) d_int)) da_nil)) d_int))) (dss_one (ds_app (d_var (pv 2)) (d_mod (d_div (d_var (pv 7)) d_int) (d_ix hr (d_var (pv 1)) (d_var (pv 6))))))))) (dss_one (ds_ret (dm_move (pv 2)))))))))
theorem dv_law_held  {cdv : Value} {A : Around} {outer : List Env} {s1 : Shared} {H : Hp} {E : XK} (hr : Room 0 (cxOf CX0 P w K mg base N_law_held "_law_held" (defScope s_law_held) T.f_law_held cdv A outer s1 H E).nox.A) :
    PDSs (cxOf CX0 P w K mg base N_law_held "_law_held" (defScope s_law_held) T.f_law_held cdv A outer s1 H E).nox (defBody s_law_held) law_held_1 :=
  (dss_one (ds_ret (dm_of (d_lc (own := [("node", 2)]) rfl sc_law_held.nd (di_rng1 (by rfl) T.range (d_var (pv 0))) (blkOk_by (by kernel_rfl)) (by decide) (fun _ _ _ _ _ => (dg_name (i := 2) sc_law_held.nd rfl (by first | exact Or.inl rfl | exact Or.inr rfl))) (fun _ _ _ _ _ => (dts_one (t_in_ hr (d_var (pv 2)) (d_var (pv 1))))) (fun _ _ _ _ _ => (d_var (pv 2)))))))
theorem dv_law_small_edge (G_law_digits : FnOk P w K mg base CX0 1 T.f_law_digits T.d_law_digits ["cell", "sizes"] (spF K (spS sp_law_digits.s))) (G_law_held : FnOk P w K mg base CX0 1 T.f_law_held T.d_law_held ["nodes", "chosen"] (spF K (spS sp_law_held.s))) {cdv : Value} {A : Around} {outer : List Env} {s1 : Shared} {H : Hp} {E : XK} (hr : Room 1 (cxOf CX0 P w K mg base N_law_small_edge "_law_small_edge" (defScope s_law_small_edge) T.f_law_small_edge cdv A outer s1 H E).nox.A) :
    PDSs (cxOf CX0 P w K mg base N_law_small_edge "_law_small_edge" (defScope s_law_small_edge) T.f_law_small_edge cdv A outer s1 H E).nox (defBody s_law_small_edge) law_small_edge_1 :=
  (dss_cons (ds_asg (i := 4) sc_law_small_edge.nd rfl (by first | exact Or.inl rfl | exact Or.inr rfl) (dm_of (d_fz (d_lst (da_cons d_int (da_cons d_int (da_cons d_int (da_cons d_int (da_cons d_int (da_cons d_int (da_cons d_int (da_cons d_int (da_cons d_int da_nil))))))))))))) (dss_cons (ds_asg (i := 5) sc_law_small_edge.nd rfl (by first | exact Or.inl rfl | exact Or.inr rfl) (dm_of (d_fz (d_call G_law_digits (spS_mono _) (hr.mono (by decide)) (by rfl) T.m_law_digits T.F_law_digits.kp T.b_law_digits pass0 (da_cons (d_var (pv 0)) (da_cons (d_lst (da_cons d_int (da_cons (d_var (pv 1)) (da_cons (d_var (pv 1)) (da_cons d_int (da_cons (d_sub (d_ix hr (d_var (pv 4)) (d_var (pv 1))) d_int) (da_cons d_int da_nil))))))) da_nil)))))) (dss_cons (ds_asg (i := 6) sc_law_small_edge.nd rfl (by first | exact Or.inl rfl | exact Or.inr rfl) (dm_of (d_ix hr (d_var (pv 5)) d_int))) (dss_cons (ds_asg (i := 7) sc_law_small_edge.nd rfl (by first | exact Or.inl rfl | exact Or.inr rfl) (dm_of (d_mod (d_intc (by rfl) T.int (da_cons (d_add (d_add (d_var (pv 6)) d_int) (d_mod (d_ix hr (d_var (pv 5)) d_int) (d_max rfl (by rfl) T.max (da_cons d_int (da_cons (d_sub (d_var (pv 1)) d_int) da_nil))))) da_nil)) (d_var (pv 1))))) (dss_cons (ds_asg (i := 8) sc_law_small_edge.nd rfl (by first | exact Or.inl rfl | exact Or.inr rfl) (dm_of (d_add (d_add (d_var (pv 6)) d_int) (d_ix hr (d_var (pv 5)) d_int)))) (dss_cons (ds_if (t_ge (d_var (pv 8)) (d_var (pv 1))) (dss_one (ds_asg (i := 8) sc_law_small_edge.nd rfl (by first | exact Or.inl rfl | exact Or.inr rfl) (dm_of (d_max rfl (by rfl) T.max (da_cons d_int (da_cons (d_sub (d_sub (d_var (pv 6)) d_int) (d_ix hr (d_var (pv 5)) d_int)) da_nil)))))) dss_nil) (dss_cons (ds_if (t_eq hr (d_ix hr (d_var (pv 5)) d_int) d_int) (dss_one (ds_ret (dm_of (d_lst (da_cons (d_var (pv 6)) da_nil))))) dss_nil) (dss_cons (ds_if (tw (tw_and (t_eq hr (d_ix hr (d_var (pv 5)) d_int) d_int) (tw_and1 (t_gt (d_len (by rfl) T.len (da_cons (d_var (pv 2)) da_nil)) d_int)))) (dss_one (ds_ret (dm_of (d_list (by rfl) T.list (d_ix hr (d_var (pv 2)) (d_mod (d_ix hr (d_var (pv 5)) d_int) (d_len (by rfl) T.len (da_cons (d_var (pv 2)) da_nil)))))))) dss_nil) (dss_cons (ds_if (t_eq hr (d_ix hr (d_var (pv 5)) d_int) d_int) (dss_one (ds_ret (dm_of (d_lc (own := [("node", 9)]) rfl sc_law_small_edge.nd (di_rng1 (by rfl) T.range (d_var (pv 1))) (blkOk_by (by kernel_rfl)) (by decide) (fun _ _ _ _ _ => (dg_name (i := 9) sc_law_small_edge.nd rfl (by first | exact Or.inl rfl | exact Or.inr rfl))) (fun _ _ _ _ _ => (dts_one (t_eq hr (d_mod (d_intc (by rfl) T.int (da_cons (d_div (d_add (d_ix hr (d_var (pv 5)) d_int) d_int) (d_ix hr (d_var (pv 4)) (d_var (pv 9)))) da_nil)) d_int) d_int))) (fun _ _ _ _ _ => (d_var (pv 9))))))) dss_nil) (dss_cons (ds_if (t_eq hr (d_ix hr (d_var (pv 5)) d_int) d_int) (dss_one (ds_ret (dm_of (d_call G_law_held (spS_mono _) (hr.mono (by decide)) (by rfl) T.m_law_held T.F_law_held.kp T.b_law_held pass0 (da_cons (d_var (pv 1)) (da_cons (d_lst (da_cons (d_var (pv 6)) (da_cons (d_add (d_var (pv 6)) d_int) (da_cons (d_add (d_var (pv 6)) d_int) da_nil)))) da_nil)))))) dss_nil) (dss_cons (ds_if (tw (tw_and (t_gt (d_ix hr (d_var (pv 5)) d_int) d_int) (tw_and1 (t_val (d_var (pv 3)))))) (dss_one (ds_ret (dm_of (d_call G_law_held (spS_mono _) (hr.mono (by decide)) (by rfl) T.m_law_held T.F_law_held.kp T.b_law_held pass0 (da_cons (d_var (pv 1)) (da_cons (d_lst (da_cons (d_var (pv 6)) (da_cons (d_var (pv 7)) da_nil))) da_nil)))))) dss_nil) (dss_one (ds_ret (dm_of (d_call G_law_held (spS_mono _) (hr.mono (by decide)) (by rfl) T.m_law_held T.F_law_held.kp T.b_law_held pass0 (da_cons (d_var (pv 1)) (da_cons (d_lst (da_cons (d_var (pv 6)) (da_cons (d_var (pv 8)) da_nil))) da_nil)))))))))))))))))
theorem dv_law_wide_edges (G_law_digits : FnOk P w K mg base CX0 1 T.f_law_digits T.d_law_digits ["cell", "sizes"] (spF K (spS sp_law_digits.s))) (G_law_held : FnOk P w K mg base CX0 1 T.f_law_held T.d_law_held ["nodes", "chosen"] (spF K (spS sp_law_held.s))) {cdv : Value} {A : Around} {outer : List Env} {s1 : Shared} {H : Hp} {E : XK} (hr : Room 1 (cxOf CX0 P w K mg base N_law_wide_edges "_law_wide_edges" (defScope s_law_wide_edges) T.f_law_wide_edges cdv A outer s1 H E).nox.A) :
    PDSs (cxOf CX0 P w K mg base N_law_wide_edges "_law_wide_edges" (defScope s_law_wide_edges) T.f_law_wide_edges cdv A outer s1 H E).nox (defBody s_law_wide_edges) law_wide_edges_1 :=
  (dss_cons (ds_asg (i := 2) sc_law_wide_edges.nd rfl (by first | exact Or.inl rfl | exact Or.inr rfl) (dm_of (d_fz (d_call G_law_digits (spS_mono _) (hr.mono (by decide)) (by rfl) T.m_law_digits T.F_law_digits.kp T.b_law_digits pass0 (da_cons (d_var (pv 0)) (da_cons (d_mul (d_lst (da_cons d_int (da_cons d_int (da_cons d_int (da_cons d_int (da_cons d_int da_nil)))))) d_int) da_nil)))))) (dss_cons (ds_asg (i := 3) sc_law_wide_edges.nd rfl (by first | exact Or.inl rfl | exact Or.inr rfl) (dm_of (d_lst da_nil))) (dss_cons (ds_for PassesOwn.never rfl (di_rng1 (by rfl) T.range d_int) (dg_name (i := 4) sc_law_wide_edges.nd rfl (by first | exact Or.inl rfl | exact Or.inr rfl)) (dss_cons (ds_asg (i := 5) sc_law_wide_edges.nd rfl (by first | exact Or.inl rfl | exact Or.inr rfl) (dm_of (d_mod (d_intc (by rfl) T.int (da_cons (d_ix hr (d_var (pv 2)) (d_add (d_mul d_int (d_var (pv 4))) d_int)) da_nil)) (d_var (pv 1))))) (dss_cons (ds_asg (i := 6) sc_law_wide_edges.nd rfl (by first | exact Or.inl rfl | exact Or.inr rfl) (dm_of (d_min rfl (by rfl) T.min (da_cons (d_sub (d_var (pv 1)) d_int) (da_cons (d_add (d_add (d_var (pv 5)) d_int) (d_ix hr (d_var (pv 2)) (d_add (d_mul d_int (d_var (pv 4))) d_int))) da_nil))))) (dss_cons (ds_asg (i := 7) sc_law_wide_edges.nd rfl (by first | exact Or.inl rfl | exact Or.inr rfl) (dm_of (d_mod (d_intc (by rfl) T.int (da_cons (d_ix hr (d_var (pv 2)) (d_add (d_mul d_int (d_var (pv 4))) d_int)) da_nil)) (d_var (pv 1))))) (dss_cons (ds_asg (i := 8) sc_law_wide_edges.nd rfl (by first | exact Or.inl rfl | exact Or.inr rfl) (dm_of (d_mod (d_intc (by rfl) T.int (da_cons (d_ix hr (d_var (pv 2)) (d_add (d_mul d_int (d_var (pv 4))) d_int)) da_nil)) (d_var (pv 1))))) (dss_cons (ds_asg (i := 9) sc_law_wide_edges.nd rfl (by first | exact Or.inl rfl | exact Or.inr rfl) (dm_of (d_lst (da_cons (d_fz (d_lst (da_cons (d_var (pv 5)) da_nil))) (da_cons (d_fz (d_lst (da_cons (d_var (pv 5)) (da_cons (d_var (pv 6)) da_nil)))) (da_cons (d_fz (d_lst (da_cons (d_var (pv 5)) (da_cons (d_var (pv 6)) da_nil)))) (da_cons (d_fz (d_lst (da_cons (d_var (pv 5)) (da_cons (d_var (pv 6)) da_nil)))) (da_cons (d_fz (d_lst (da_cons (d_var (pv 5)) (da_cons (d_var (pv 7)) da_nil)))) (da_cons (d_fz (d_lst (da_cons (d_var (pv 5)) (da_cons (d_var (pv 6)) (da_cons (d_sub (d_var (pv 6)) d_int) da_nil))))) da_nil))))))))) (dss_cons (ds_app (d_var (pv 9)) (d_fz (d_lst (da_cons (d_var (pv 5)) (da_cons (d_var (pv 6)) (da_cons (d_var (pv 7)) (da_cons (d_var (pv 8)) da_nil))))))) (dss_cons (ds_app (d_var (pv 9)) (d_fz (d_lc (own := [("step", 10)]) rfl sc_law_wide_edges.nd (di_rng1 (by rfl) T.range (d_add d_int (d_mul d_int (d_ix hr (d_var (pv 2)) (d_add (d_mul d_int (d_var (pv 4))) d_int))))) (blkOk_by (by kernel_rfl)) (by decide) (fun _ _ _ _ _ => (dg_name (i := 10) sc_law_wide_edges.nd rfl (by first | exact Or.inl rfl | exact Or.inr rfl))) (fun _ _ _ _ _ => dts_nil) (fun _ _ _ _ _ => (d_add (d_var (pv 5)) (d_var (pv 10))))))) (dss_one (ds_app (d_var (pv 3)) (d_fz (d_call G_law_held (spS_mono _) (hr.mono (by decide)) (by rfl) T.m_law_held T.F_law_held.kp T.b_law_held pass0 (da_cons (d_var (pv 1)) (da_cons (d_ix hr (d_var (pv 9)) (d_ix hr (d_var (pv 2)) (d_mul d_int (d_var (pv 4))))) da_nil)))))))))))))) (dss_one (ds_ret (dm_move (pv 3)))))))
theorem dv_law_net (G_law_cell : FnOk P w K mg base CX0 1 T.f_law_cell T.d_law_cell ["script", "k"] (spF K (spS sp_law_cell.s))) (G_law_digits : FnOk P w K mg base CX0 1 T.f_law_digits T.d_law_digits ["cell", "sizes"] (spF K (spS sp_law_digits.s))) (G_law_wide_edges : FnOk P w K mg base CX0 2 T.f_law_wide_edges T.d_law_wide_edges ["cell", "nodes"] (spF K (spS sp_law_wide_edges.s))) (G_law_small_edge : FnOk P w K mg base CX0 2 T.f_law_small_edge T.d_law_small_edge ["cell", "nodes", "edges", "loose"] (spF K (spS sp_law_small_edge.s))) {cdv : Value} {A : Around} {outer : List Env} {s1 : Shared} {H : Hp} {E : XK} (hr : Room 2 (cxOf CX0 P w K mg base N_law_net "_law_net" (defScope s_law_net) T.f_law_net cdv A outer s1 H E).nox.A) :
    PDSs (cxOf CX0 P w K mg base N_law_net "_law_net" (defScope s_law_net) T.f_law_net cdv A outer s1 H E).nox (defBody s_law_net) law_net_1 :=
  (dss_cons (ds_asg (i := 2) sc_law_net.nd rfl (by first | exact Or.inl rfl | exact Or.inr rfl) (dm_of (d_fz (d_call G_law_digits (spS_mono _) (hr.mono (by decide)) (by rfl) T.m_law_digits T.F_law_digits.kp T.b_law_digits pass0 (da_cons (d_call G_law_cell (spS_mono _) (hr.mono (by decide)) (by rfl) T.m_law_cell T.F_law_cell.kp T.b_law_cell pass0 (da_cons (d_var (pv 0)) (da_cons (d_var (pv 1)) da_nil))) (da_cons (d_add (d_lst (da_cons d_int (da_cons d_int (da_cons d_int (da_cons d_int (da_cons d_int (da_cons d_int da_nil))))))) (d_mul (d_lst (da_cons d_int da_nil)) d_int)) da_nil)))))) (dss_cons (ds_asg (i := 3) sc_law_net.nd rfl (by first | exact Or.inl rfl | exact Or.inr rfl) (dm_of (d_fz (d_ix hr (d_lst (da_cons d_int (da_cons d_int (da_cons d_int (da_cons d_int (da_cons d_int (da_cons d_int (da_cons d_int (da_cons d_int (da_cons d_int (da_cons d_int (da_cons d_int (da_cons d_int (da_cons d_int (da_cons d_int (da_cons d_int (da_cons d_int da_nil))))))))))))))))) (d_ix hr (d_var (pv 2)) d_int))))) (dss_cons (ds_asg (i := 4) sc_law_net.nd rfl (by first | exact Or.inl rfl | exact Or.inr rfl) (dm_of (d_fz (d_ix hr (d_lst (da_cons d_int (da_cons d_int (da_cons d_int (da_cons d_int (da_cons d_int (da_cons d_int (da_cons d_int (da_cons d_int (da_cons d_int (da_cons d_int (da_cons d_int (da_cons d_int (da_cons d_int (da_cons d_int (da_cons d_int (da_cons d_int (da_cons d_int (da_cons d_int (da_cons d_int (da_cons d_int (da_cons d_int (da_cons d_int (da_cons d_int (da_cons d_int da_nil))))))))))))))))))))))))) (d_ix hr (d_var (pv 2)) d_int))))) (dss_cons (ds_asg (i := 5) sc_law_net.nd rfl (by first | exact Or.inl rfl | exact Or.inr rfl) (dm_of (d_lst da_nil))) (dss_cons (ds_if (t_eq hr (d_ix hr (d_var (pv 2)) d_int) d_int) (dss_cons (ds_asg (i := 3) sc_law_net.nd rfl (by first | exact Or.inl rfl | exact Or.inr rfl) (dm_of (d_add d_int (d_ix hr (d_var (pv 2)) d_int)))) (dss_cons (ds_for PassesOwn.never rfl (di_rng1 (by rfl) T.range d_int) (dg_name (i := 6) sc_law_net.nd rfl (by first | exact Or.inl rfl | exact Or.inr rfl)) (dss_one (ds_asg (i := 5) sc_law_net.nd rfl (by first | exact Or.inl rfl | exact Or.inr rfl) (dm_of (d_add (d_var (pv 5)) (d_call G_law_wide_edges (spS_mono _) (hr.mono (by decide)) (by rfl) T.m_law_wide_edges T.F_law_wide_edges.kp T.b_law_wide_edges pass0 (da_cons (d_call G_law_cell (spS_mono _) (hr.mono (by decide)) (by rfl) T.m_law_cell T.F_law_cell.kp T.b_law_cell pass0 (da_cons (d_var (pv 0)) (da_cons (d_add (d_add (d_var (pv 1)) d_int) (d_var (pv 6))) da_nil))) (da_cons (d_var (pv 3)) da_nil)))))))) (dss_one (ds_asg (i := 5) sc_law_net.nd rfl (by first | exact Or.inl rfl | exact Or.inr rfl) (dm_of (d_sl (d_var (pv 5)) do_none (do_some (d_add d_int (d_ix hr (d_var (pv 2)) d_int))))))))) (dss_one (ds_for PassesOwn.never rfl (di_rng1 (by rfl) T.range (d_var (pv 4))) (dg_name (i := 6) sc_law_net.nd rfl (by first | exact Or.inl rfl | exact Or.inr rfl)) (dss_one (ds_app (d_var (pv 5)) (d_fz (d_call G_law_small_edge (spS_mono _) (hr.mono (by decide)) (by rfl) T.m_law_small_edge T.F_law_small_edge.kp T.b_law_small_edge pass0 (da_cons (d_call G_law_cell (spS_mono _) (hr.mono (by decide)) (by rfl) T.m_law_cell T.F_law_cell.kp T.b_law_cell pass0 (da_cons (d_var (pv 0)) (da_cons (d_add (d_add (d_var (pv 1)) d_int) (d_var (pv 6))) da_nil))) (da_cons (d_var (pv 3)) (da_cons (d_var (pv 5)) (da_cons (d_eq hr (d_ix hr (d_var (pv 2)) d_int) d_int) da_nil))))))))))) (dss_cons (ds_asg (i := 7) sc_law_net.nd rfl (by first | exact Or.inl rfl | exact Or.inr rfl) (dm_of (d_fz (d_lc (own := [("pair", 8)]) rfl sc_law_net.nd (di_seq (d_sort (by rfl) T.sorted (d_lc (own := [("k", 6)]) rfl sc_law_net.nd (di_rng1 (by rfl) T.range (d_var (pv 3))) (blkOk_by (by kernel_rfl)) (by decide) (fun _ _ _ _ _ => (dg_name (i := 6) sc_law_net.nd rfl (by first | exact Or.inl rfl | exact Or.inr rfl))) (fun _ _ _ _ _ => dts_nil) (fun _ _ _ _ _ => (d_tup (da_cons (d_ix hr (d_var (pv 2)) (d_add d_int (d_var (pv 6)))) (da_cons (d_var (pv 6)) da_nil))))))) (blkOk_by (by kernel_rfl)) (by decide) (fun _ _ _ _ _ => (dg_name (i := 8) sc_law_net.nd rfl (by first | exact Or.inl rfl | exact Or.inr rfl))) (fun _ _ _ _ _ => dts_nil) (fun _ _ _ _ _ => (d_ix hr (d_var (pv 8)) d_int)))))) (dss_one (ds_ret (dm_of (d_lst (da_cons (d_var (pv 3)) (da_cons (d_fz (d_lc (own := [("edge", 9)]) rfl sc_law_net.nd (di_seq (d_var (pv 5))) (blkOk_by (by kernel_rfl)) (by decide) (fun _ _ _ _ _ => (dg_name (i := 9) sc_law_net.nd rfl (by first | exact Or.inl rfl | exact Or.inr rfl))) (fun _ _ _ _ _ => dts_nil) (fun _ _ _ _ _ => (d_fz (d_sort (by rfl) T.sorted (d_lc (own := [("node", 10)]) rfl sc_law_net.nd (di_seq (d_var (pv 9))) (blkOk_by (by kernel_rfl)) (by decide) (fun _ _ _ _ _ => (dg_name (i := 10) sc_law_net.nd rfl (by first | exact Or.inl rfl | exact Or.inr rfl))) (fun _ _ _ _ _ => dts_nil) (fun _ _ _ _ _ => (d_ix hr (d_var (pv 7)) (d_var (pv 10)))))))))) da_nil))))))))))))
theorem dv_law_form  {cdv : Value} {A : Around} {outer : List Env} {s1 : Shared} {H : Hp} {E : XK} (hr : Room 0 (cxOf CX0 P w K mg base N_law_form "_law_form" (defScope s_law_form) T.f_law_form cdv A outer s1 H E).nox.A) :
    PDSs (cxOf CX0 P w K mg base N_law_form "_law_form" (defScope s_law_form) T.f_law_form cdv A outer s1 H E).nox (defBody s_law_form) law_form_1 :=
  (dss_cons (ds_if (t_eq hr (d_var (pv 1)) d_int) (dss_one (ds_ret (dm_of (d_lc (own := [("row", 2)]) rfl sc_law_form.nd (di_seq (d_var (pv 0))) (blkOk_by (by kernel_rfl)) (by decide) (fun _ _ _ _ _ => (dg_name (i := 2) sc_law_form.nd rfl (by first | exact Or.inl rfl | exact Or.inr rfl))) (fun _ _ _ _ _ => dts_nil) (fun _ _ _ _ _ => (d_fz (d_list (by rfl) T.list (d_var (pv 2))))))))) dss_nil) (dss_cons (ds_if (t_eq hr (d_var (pv 1)) d_int) (dss_one (ds_ret (dm_of (d_tuple (by rfl) T.tuple (d_lc (own := [("row", 2)]) rfl sc_law_form.nd (di_seq (d_var (pv 0))) (blkOk_by (by kernel_rfl)) (by decide) (fun _ _ _ _ _ => (dg_name (i := 2) sc_law_form.nd rfl (by first | exact Or.inl rfl | exact Or.inr rfl))) (fun _ _ _ _ _ => dts_nil) (fun _ _ _ _ _ => (d_tuple (by rfl) T.tuple (d_var (pv 2))))))))) dss_nil) (dss_cons (ds_if (t_eq hr (d_var (pv 1)) d_int) (dss_one (ds_ret (dm_of (d_lc (own := [("row", 2)]) rfl sc_law_form.nd (di_seq (d_var (pv 0))) (blkOk_by (by kernel_rfl)) (by decide) (fun _ _ _ _ _ => (dg_name (i := 2) sc_law_form.nd rfl (by first | exact Or.inl rfl | exact Or.inr rfl))) (fun _ _ _ _ _ => dts_nil) (fun _ _ _ _ _ => (d_tuple (by rfl) T.tuple (d_var (pv 2)))))))) dss_nil) (dss_one (ds_ret (dm_of (d_tuple (by rfl) T.tuple (d_lc (own := [("row", 2)]) rfl sc_law_form.nd (di_seq (d_var (pv 0))) (blkOk_by (by kernel_rfl)) (by decide) (fun _ _ _ _ _ => (dg_name (i := 2) sc_law_form.nd rfl (by first | exact Or.inl rfl | exact Or.inr rfl))) (fun _ _ _ _ _ => dts_nil) (fun _ _ _ _ _ => (d_fz (d_list (by rfl) T.list (d_var (pv 2)))))))))))))
theorem dv_law_drawn_row (G_law_digits : FnOk P w K mg base CX0 1 T.f_law_digits T.d_law_digits ["cell", "sizes"] (spF K (spS sp_law_digits.s))) {cdv : Value} {A : Around} {outer : List Env} {s1 : Shared} {H : Hp} {E : XK} (hr : Room 1 (cxOf CX0 P w K mg base N_law_drawn_row "_law_drawn_row" (defScope s_law_drawn_row) T.f_law_drawn_row cdv A outer s1 H E).nox.A) :
    PDSs (cxOf CX0 P w K mg base N_law_drawn_row "_law_drawn_row" (defScope s_law_drawn_row) T.f_law_drawn_row cdv A outer s1 H E).nox (defBody s_law_drawn_row) law_drawn_row_1 :=
  (dss_cons (ds_asg (i := 3) sc_law_drawn_row.nd rfl (by first | exact Or.inl rfl | exact Or.inr rfl) (dm_of (d_fz (d_call G_law_digits (spS_mono _) (hr.mono (by decide)) (by rfl) T.m_law_digits T.F_law_digits.kp T.b_law_digits pass0 (da_cons (d_var (pv 2)) (da_cons (d_add (d_lst (da_cons d_int (da_cons d_int (da_cons d_int (da_cons d_int (da_cons (d_pow d_int d_int) da_nil)))))) (d_mul (d_lst (da_cons d_int (da_cons d_int da_nil))) d_int)) da_nil)))))) (dss_cons (ds_setLcF (i := 4) (own := [("node", 11)]) rfl sc_law_drawn_row.nd rfl rfl (sw_true rfl rfl rfl (by decide +kernel)) (di_rng1 (by rfl) T.range (d_var (pv 0))) (blkOk_by (by kernel_rfl)) (by decide) (fun _ _ _ _ _ => (dg_name (i := 11) sc_law_drawn_row.nd rfl (by first | exact Or.inl rfl | exact Or.inr rfl))) (fun _ _ _ _ _ => (dts_one (t_gt (d_len (by rfl) T.len (da_cons (d_lc (own := [("edge", 12)]) rfl sc_law_drawn_row.nd (di_seq (d_var (pv 1))) (blkOk_by (by kernel_rfl)) (by decide) (fun _ _ _ _ _ => (dg_name (i := 12) sc_law_drawn_row.nd rfl (by first | exact Or.inl rfl | exact Or.inr rfl))) (fun _ _ _ _ _ => (dts_one (tw (tw_and (t_in_ hr (d_var (pv 11)) (d_var (pv 12))) (tw_and1 (t_gt (d_len (by rfl) T.len (da_cons (d_var (pv 12)) da_nil)) d_int)))))) (fun _ _ _ _ _ => (d_var (pv 12)))) da_nil)) d_int))) (fun _ _ _ _ _ => (d_var (pv 11)))) (dss_cons (ds_if (t_eq hr (d_len (by rfl) T.len (da_cons (d_var (pv 4)) da_nil)) d_int) (dss_one (ds_asg (i := 4) sc_law_drawn_row.nd rfl (by first | exact Or.inl rfl | exact Or.inr rfl) (dm_of (d_fz (d_lst (da_cons (d_mod (d_intc (by rfl) T.int (da_cons (d_ix hr (d_var (pv 3)) d_int) da_nil)) (d_var (pv 0))) da_nil)))))) dss_nil) (dss_cons (ds_asg (i := 5) sc_law_drawn_row.nd rfl (by first | exact Or.inl rfl | exact Or.inr rfl) (dm_of (d_lst (da_cons (d_ix hr (d_var (pv 4)) (d_mod (d_intc (by rfl) T.int (da_cons (d_ix hr (d_var (pv 3)) d_int) da_nil)) (d_len (by rfl) T.len (da_cons (d_var (pv 4)) da_nil)))) da_nil)))) (dss_cons (ds_asg (i := 6) sc_law_drawn_row.nd rfl (by first | exact Or.inl rfl | exact Or.inr rfl) (dm_of (d_lst da_nil))) (dss_cons (ds_for PassesOwn.never rfl (di_rng1 (by rfl) T.range (d_ix hr (d_lst (da_cons d_int (da_cons d_int (da_cons d_int (da_cons d_int (da_cons d_int (da_cons d_int da_nil))))))) (d_ix hr (d_var (pv 3)) d_int))) (dg_name (i := 7) sc_law_drawn_row.nd rfl (by first | exact Or.inl rfl | exact Or.inr rfl)) (dss_cons (ds_asg (i := 8) sc_law_drawn_row.nd rfl (by first | exact Or.inl rfl | exact Or.inr rfl) (dm_of (d_fz (d_lst da_nil)))) (dss_cons (ds_for PassesOwn.never rfl (di_rng1 (by rfl) T.range (d_len (by rfl) T.len (da_cons (d_var (pv 1)) da_nil))) (dg_name (i := 9) sc_law_drawn_row.nd rfl (by first | exact Or.inl rfl | exact Or.inr rfl)) (dss_one (ds_if (tw (tw_and (t_in_ hr (d_ix hr (d_var (pv 5)) (d_var (pv 7))) (d_ix hr (d_var (pv 1)) (d_var (pv 9)))) (tw_and1 (t_nin hr (d_var (pv 9)) (d_var (pv 6)))))) (dss_one (ds_asg (i := 8) sc_law_drawn_row.nd rfl (by first | exact Or.inl rfl | exact Or.inr rfl) (dm_of (d_fz (d_add (d_var (pv 8)) (d_lc (own := [("node", 11)]) rfl sc_law_drawn_row.nd (di_seq (d_ix hr (d_var (pv 1)) (d_var (pv 9)))) (blkOk_by (by kernel_rfl)) (by decide) (fun _ _ _ _ _ => (dg_name (i := 11) sc_law_drawn_row.nd rfl (by first | exact Or.inl rfl | exact Or.inr rfl))) (fun _ _ _ _ _ => (dts_one (t_nin hr (d_var (pv 11)) (d_var (pv 5))))) (fun _ _ _ _ _ => (d_tup (da_cons (d_var (pv 11)) (da_cons (d_var (pv 9)) da_nil)))))))))) dss_nil))) (dss_cons (ds_if (t_eq hr (d_len (by rfl) T.len (da_cons (d_var (pv 8)) da_nil)) d_int) (dss_one ds_break) dss_nil) (dss_cons (ds_asg (i := 10) sc_law_drawn_row.nd rfl (by first | exact Or.inl rfl | exact Or.inr rfl) (dm_of (d_ix hr (d_var (pv 8)) (d_mod (d_intc (by rfl) T.int (da_cons (d_add (d_mul (d_ix hr (d_var (pv 3)) (d_add d_int (d_mul d_int (d_var (pv 7))))) d_int) (d_ix hr (d_var (pv 3)) (d_add d_int (d_mul d_int (d_var (pv 7)))))) da_nil)) (d_len (by rfl) T.len (da_cons (d_var (pv 8)) da_nil)))))) (dss_cons (ds_app (d_var (pv 5)) (d_ix hr (d_var (pv 10)) d_int)) (dss_one (ds_app (d_var (pv 6)) (d_ix hr (d_var (pv 10)) d_int))))))))) (dss_frz 5 (dss_frz 6 (dss_one (ds_ret (dm_of (d_lst (da_cons (d_fz (d_ix hr (d_lst (da_cons (d_add d_int (d_ix hr (d_var (pv 3)) d_int)) (da_cons (d_add (d_pow d_int d_int) (d_ix hr (d_var (pv 3)) d_int)) da_nil))) (d_intc (by rfl) T.int (da_cons (d_eq hr (d_ix hr (d_var (pv 3)) d_int) d_int) da_nil)))) (da_cons (d_var (pv 5)) (da_cons (d_var (pv 6)) da_nil)))))))))))))))
theorem dv_law_used  {cdv : Value} {A : Around} {outer : List Env} {s1 : Shared} {H : Hp} {E : XK} (hr : Room 0 (cxOf CX0 P w K mg base N_law_used "_law_used" (defScope s_law_used) T.f_law_used cdv A outer s1 H E).nox.A) :
    PDSs (cxOf CX0 P w K mg base N_law_used "_law_used" (defScope s_law_used) T.f_law_used cdv A outer s1 H E).nox (defBody s_law_used) law_used_1 :=
  (dss_cons (ds_setLc (i := 2) (own := [("edge", 5)]) rfl sc_law_used.nd rfl rfl (sw_true rfl rfl rfl (by decide +kernel)) (di_seq (d_var (pv 0))) (blkOk_by (by kernel_rfl)) (by decide) (fun _ _ _ _ _ => (dg_name (i := 5) sc_law_used.nd rfl (by first | exact Or.inl rfl | exact Or.inr rfl))) (fun _ _ _ _ _ => dts_nil) (fun _ _ _ _ _ => d_int)) (dss_cons (ds_for PassesOwn.never rfl (di_seq (d_var (pv 1))) (dg_name (i := 3) sc_law_used.nd rfl (by first | exact Or.inl rfl | exact Or.inr rfl)) (dss_one (ds_for PassesOwn.never rfl (di_seq (d_ix hr (d_var (pv 3)) d_int)) (dg_name (i := 4) sc_law_used.nd rfl (by first | exact Or.inl rfl | exact Or.inr rfl)) (dss_one (ds_setI hr (dm_of (d_add (d_ix hr (d_var (pv 2)) (d_var (pv 4))) (d_ix hr (d_var (pv 3)) d_int))) (d_var (pv 2)) (d_var (pv 4))))))) (dss_one (ds_ret (dm_move (pv 2))))))
theorem dv_law_packing (G_law_used : FnOk P w K mg base CX0 1 T.f_law_used T.d_law_used ["edges", "packing"] (spF K (spS sp_law_used.s))) {cdv : Value} {A : Around} {outer : List Env} {s1 : Shared} {H : Hp} {E : XK} (hr : Room 1 (cxOf CX0 P w K mg base N_law_packing "_law_packing" (defScope s_law_packing) T.f_law_packing cdv A outer s1 H E).nox.A) :
    PDSs (cxOf CX0 P w K mg base N_law_packing "_law_packing" (defScope s_law_packing) T.f_law_packing cdv A outer s1 H E).nox (defBody s_law_packing) law_packing_1 :=
  (dss_cons (ds_asg (i := 1) sc_law_packing.nd rfl (by first | exact Or.inl rfl | exact Or.inr rfl) (dm_of (d_ix hr (d_var (pv 0)) d_int))) (dss_cons (ds_asg (i := 2) sc_law_packing.nd rfl (by first | exact Or.inl rfl | exact Or.inr rfl) (dm_of (d_ix hr (d_var (pv 0)) d_int))) (dss_cons (ds_for PassesOwn.never rfl (di_seq (d_ix hr (d_var (pv 0)) d_int)) (dg_name (i := 3) sc_law_packing.nd rfl (by first | exact Or.inl rfl | exact Or.inr rfl)) (dss_cons (ds_asg (i := 4) sc_law_packing.nd rfl (by first | exact Or.inl rfl | exact Or.inr rfl) (dm_of (d_ix hr (d_var (pv 3)) d_int))) (dss_cons (ds_asg (i := 5) sc_law_packing.nd rfl (by first | exact Or.inl rfl | exact Or.inr rfl) (dm_of (d_ix hr (d_var (pv 3)) d_int))) (dss_cons (ds_if (tw (tw_or (t_lt (d_ix hr (d_var (pv 3)) d_int) d_int) (tw_or (t_eq hr (d_len (by rfl) T.len (da_cons (d_var (pv 4)) da_nil)) d_int) (tw_or1 (t_ne hr (d_len (by rfl) T.len (da_cons (d_var (pv 5)) da_nil)) (d_sub (d_len (by rfl) T.len (da_cons (d_var (pv 4)) da_nil)) d_int)))))) (dss_one (ds_ret (dm_of d_bl))) dss_nil) (dss_cons (ds_for PassesOwn.never rfl (di_rng1 (by rfl) T.range (d_len (by rfl) T.len (da_cons (d_var (pv 4)) da_nil))) (dg_name (i := 6) sc_law_packing.nd rfl (by first | exact Or.inl rfl | exact Or.inr rfl)) (dss_one (ds_if (tw (tw_or (t_lt (d_ix hr (d_var (pv 4)) (d_var (pv 6))) d_int) (tw_or (t_ge (d_ix hr (d_var (pv 4)) (d_var (pv 6))) (d_var (pv 1))) (tw_or1 (t_in_ hr (d_ix hr (d_var (pv 4)) (d_var (pv 6))) (d_sl (d_var (pv 4)) do_none (do_some (d_var (pv 6))))))))) (dss_one (ds_ret (dm_of d_bl))) dss_nil))) (dss_cons (ds_for PassesOwn.never rfl (di_rng1 (by rfl) T.range (d_len (by rfl) T.len (da_cons (d_var (pv 5)) da_nil))) (dg_name (i := 6) sc_law_packing.nd rfl (by first | exact Or.inl rfl | exact Or.inr rfl)) (dss_cons (ds_if (tw (tw_or (t_lt (d_ix hr (d_var (pv 5)) (d_var (pv 6))) d_int) (tw_or (t_ge (d_ix hr (d_var (pv 5)) (d_var (pv 6))) (d_len (by rfl) T.len (da_cons (d_var (pv 2)) da_nil))) (tw_or1 (t_in_ hr (d_ix hr (d_var (pv 5)) (d_var (pv 6))) (d_sl (d_var (pv 5)) do_none (do_some (d_var (pv 6))))))))) (dss_one (ds_ret (dm_of d_bl))) dss_nil) (dss_one (ds_if (tw (tw_or (t_nin hr (d_ix hr (d_var (pv 4)) (d_var (pv 6))) (d_ix hr (d_var (pv 2)) (d_ix hr (d_var (pv 5)) (d_var (pv 6))))) (tw_or1 (t_nin hr (d_ix hr (d_var (pv 4)) (d_add (d_var (pv 6)) d_int)) (d_ix hr (d_var (pv 2)) (d_ix hr (d_var (pv 5)) (d_var (pv 6)))))))) (dss_one (ds_ret (dm_of d_bl))) dss_nil)))) (dss_one (ds_if (tw (tw_or (t_nin hr (d_ix hr (d_var (pv 4)) d_int) (d_ix hr (d_var (pv 0)) d_int)) (tw_or1 (t_nin hr (d_ix hr (d_var (pv 4)) (d_sub (d_len (by rfl) T.len (da_cons (d_var (pv 4)) da_nil)) d_int)) (d_ix hr (d_var (pv 0)) d_int))))) (dss_one (ds_ret (dm_of d_bl))) dss_nil)))))))) (dss_cons (ds_asg (i := 7) sc_law_packing.nd rfl (by first | exact Or.inl rfl | exact Or.inr rfl) (dm_of (d_fz (d_call G_law_used (spS_mono _) (hr.mono (by decide)) (by rfl) T.m_law_used T.F_law_used.kp T.b_law_used pass0 (da_cons (d_var (pv 2)) (da_cons (d_ix hr (d_var (pv 0)) d_int) da_nil)))))) (dss_one (ds_ret (dm_of (d_eq hr (d_len (by rfl) T.len (da_cons (d_lc (own := [("k", 6)]) rfl sc_law_packing.nd (di_rng1 (by rfl) T.range (d_len (by rfl) T.len (da_cons (d_var (pv 2)) da_nil))) (blkOk_by (by kernel_rfl)) (by decide) (fun _ _ _ _ _ => (dg_name (i := 6) sc_law_packing.nd rfl (by first | exact Or.inl rfl | exact Or.inr rfl))) (fun _ _ _ _ _ => (dts_one (tw (tw_and (t_isnt (d_ix hr (d_ix hr (d_var (pv 0)) d_int) (d_var (pv 6))) d_non) (tw_and1 (t_gt (d_ix hr (d_var (pv 7)) (d_var (pv 6))) (d_ix hr (d_ix hr (d_var (pv 0)) d_int) (d_var (pv 6))))))))) (fun _ _ _ _ _ => (d_var (pv 6)))) da_nil)) d_int))))))))
theorem dv_law_paper  {cdv : Value} {A : Around} {outer : List Env} {s1 : Shared} {H : Hp} {E : XK} (hr : Room 0 (cxOf CX0 P w K mg base N_law_paper "_law_paper" (defScope s_law_paper) T.f_law_paper cdv A outer s1 H E).nox.A) :
    PDSs (cxOf CX0 P w K mg base N_law_paper "_law_paper" (defScope s_law_paper) T.f_law_paper cdv A outer s1 H E).nox (defBody s_law_paper) law_paper_1 :=
  (dss_cons (ds_if (t_eq hr (d_var (pv 1)) d_int) (dss_one (ds_ret (dm_of (d_lc (own := [("row", 2)]) rfl sc_law_paper.nd (di_seq (d_var (pv 0))) (blkOk_by (by kernel_rfl)) (by decide) (fun _ _ _ _ _ => (dg_name (i := 2) sc_law_paper.nd rfl (by first | exact Or.inl rfl | exact Or.inr rfl))) (fun _ _ _ _ _ => dts_nil) (fun _ _ _ _ _ => (d_fz (d_lst (da_cons (d_ix hr (d_var (pv 2)) d_int) (da_cons (d_fz (d_list (by rfl) T.list (d_ix hr (d_var (pv 2)) d_int))) (da_cons (d_fz (d_list (by rfl) T.list (d_ix hr (d_var (pv 2)) d_int))) da_nil)))))))))) dss_nil) (dss_cons (ds_if (t_eq hr (d_var (pv 1)) d_int) (dss_one (ds_ret (dm_of (d_tuple (by rfl) T.tuple (d_lc (own := [("row", 2)]) rfl sc_law_paper.nd (di_seq (d_var (pv 0))) (blkOk_by (by kernel_rfl)) (by decide) (fun _ _ _ _ _ => (dg_name (i := 2) sc_law_paper.nd rfl (by first | exact Or.inl rfl | exact Or.inr rfl))) (fun _ _ _ _ _ => dts_nil) (fun _ _ _ _ _ => (d_tup (da_cons (d_ix hr (d_var (pv 2)) d_int) (da_cons (d_tuple (by rfl) T.tuple (d_ix hr (d_var (pv 2)) d_int)) (da_cons (d_tuple (by rfl) T.tuple (d_ix hr (d_var (pv 2)) d_int)) da_nil)))))))))) dss_nil) (dss_cons (ds_if (t_eq hr (d_var (pv 1)) d_int) (dss_one (ds_ret (dm_of (d_lc (own := [("row", 2)]) rfl sc_law_paper.nd (di_seq (d_var (pv 0))) (blkOk_by (by kernel_rfl)) (by decide) (fun _ _ _ _ _ => (dg_name (i := 2) sc_law_paper.nd rfl (by first | exact Or.inl rfl | exact Or.inr rfl))) (fun _ _ _ _ _ => dts_nil) (fun _ _ _ _ _ => (d_tup (da_cons (d_ix hr (d_var (pv 2)) d_int) (da_cons (d_list (by rfl) T.list (d_ix hr (d_var (pv 2)) d_int)) (da_cons (d_tuple (by rfl) T.tuple (d_ix hr (d_var (pv 2)) d_int)) da_nil))))))))) dss_nil) (dss_one (ds_ret (dm_of (d_tuple (by rfl) T.tuple (d_lc (own := [("row", 2)]) rfl sc_law_paper.nd (di_seq (d_var (pv 0))) (blkOk_by (by kernel_rfl)) (by decide) (fun _ _ _ _ _ => (dg_name (i := 2) sc_law_paper.nd rfl (by first | exact Or.inl rfl | exact Or.inr rfl))) (fun _ _ _ _ _ => dts_nil) (fun _ _ _ _ _ => (d_fz (d_lst (da_cons (d_ix hr (d_var (pv 2)) d_int) (da_cons (d_tuple (by rfl) T.tuple (d_ix hr (d_var (pv 2)) d_int)) (da_cons (d_fz (d_list (by rfl) T.list (d_ix hr (d_var (pv 2)) d_int))) da_nil))))))))))))))
theorem dv_law_asked (G_law_form : FnOk P w K mg base CX0 1 T.f_law_form T.d_law_form ["rows", "form"] (spF K (spS sp_law_form.s))) (G_law_paper : FnOk P w K mg base CX0 1 T.f_law_paper T.d_law_paper ["packing", "form"] (spF K (spS sp_law_paper.s))) (G_is_packing : FnOk P w K mg base CX0 2 T.f_is_packing T.d_is_packing ["nodes", "edges", "costs", "zeros", "ones", "packing"] (spF K (spS sp_is_packing.s))) (G_law_packing : FnOk P w K mg base CX0 2 T.f_law_packing T.d_law_packing ["question"] (spF K (spS sp_law_packing.s))) {cdv : Value} {A : Around} {outer : List Env} {s1 : Shared} {H : Hp} {E : XK} (hr : Room 2 (cxOf CX0 P w K mg base N_law_asked "_law_asked" (defScope s_law_asked) T.f_law_asked cdv A outer s1 H E).nox.A) :
    PDSs (cxOf CX0 P w K mg base N_law_asked "_law_asked" (defScope s_law_asked) T.f_law_asked cdv A outer s1 H E).nox (defBody s_law_asked) law_asked_1 :=
  (dss_cons (ds_asg (i := 2) sc_law_asked.nd rfl (by first | exact Or.inl rfl | exact Or.inr rfl) (dm_of (d_fz (d_call G_law_form (spS_mono _) (hr.mono (by decide)) (by rfl) T.m_law_form T.F_law_form.kp T.b_law_form pass0 (da_cons (d_ix hr (d_var (pv 0)) d_int) (da_cons (d_var (pv 1)) da_nil)))))) (dss_cons (ds_asg (i := 3) sc_law_asked.nd rfl (by first | exact Or.inl rfl | exact Or.inr rfl) (dm_of (d_fz (d_call G_law_form (spS_mono _) (hr.mono (by decide)) (by rfl) T.m_law_form T.F_law_form.kp T.b_law_form pass0 (da_cons (d_sl (d_var (pv 0)) (do_some d_int) (do_some d_int)) (da_cons (d_sub d_int (d_var (pv 1))) da_nil)))))) (dss_cons (ds_asg (i := 4) sc_law_asked.nd rfl (by first | exact Or.inl rfl | exact Or.inr rfl) (dm_of (d_fz (d_call G_law_paper (spS_mono _) (hr.mono (by decide)) (by rfl) T.m_law_paper T.F_law_paper.kp T.b_law_paper pass0 (da_cons (d_ix hr (d_var (pv 0)) d_int) (da_cons (d_var (pv 1)) da_nil)))))) (dss_cons (ds_asg (i := 5) sc_law_asked.nd rfl (by first | exact Or.inl rfl | exact Or.inr rfl) (dm_of (d_fz (d_call G_is_packing (spS_mono _) (hr.mono (by decide)) (by rfl) T.m_is_packing T.F_is_packing.kp T.b_is_packing pass0 (da_cons (d_ix hr (d_var (pv 0)) d_int) (da_cons (d_var (pv 2)) (da_cons (d_ix hr (d_var (pv 3)) d_int) (da_cons (d_ix hr (d_var (pv 3)) d_int) (da_cons (d_ix hr (d_var (pv 3)) d_int) (da_cons (d_var (pv 4)) da_nil)))))))))) (dss_cons (ds_if (tw (tw_or (t_ne hr (d_var (pv 2)) (d_call G_law_form (spS_mono _) (hr.mono (by decide)) (by rfl) T.m_law_form T.F_law_form.kp T.b_law_form pass0 (da_cons (d_ix hr (d_var (pv 0)) d_int) (da_cons (d_var (pv 1)) da_nil)))) (tw_or1 (t_ne hr (d_var (pv 3)) (d_call G_law_form (spS_mono _) (hr.mono (by decide)) (by rfl) T.m_law_form T.F_law_form.kp T.b_law_form pass0 (da_cons (d_sl (d_var (pv 0)) (do_some d_int) (do_some d_int)) (da_cons (d_sub d_int (d_var (pv 1))) da_nil))))))) (dss_one (ds_ret (dm_of d_bl))) dss_nil) (dss_cons (ds_if (t_ne hr (d_var (pv 4)) (d_call G_law_paper (spS_mono _) (hr.mono (by decide)) (by rfl) T.m_law_paper T.F_law_paper.kp T.b_law_paper pass0 (da_cons (d_ix hr (d_var (pv 0)) d_int) (da_cons (d_var (pv 1)) da_nil)))) (dss_one (ds_ret (dm_of d_bl))) dss_nil) (dss_one (ds_ret (dm_of (d_and (d_isi (T' := "bool") (by decide) (by rfl) T.isinstance (by rfl) T.bool (by decide +kernel) (d_var (pv 5))) (d_one (d_eq hr (d_var (pv 5)) (d_call G_law_packing (spS_mono _) (hr.mono (by decide)) (by rfl) T.m_law_packing T.F_law_packing.kp T.b_law_packing pass0 (da_cons (d_var (pv 0)) da_nil))))))))))))))
theorem dv_law_with  {cdv : Value} {A : Around} {outer : List Env} {s1 : Shared} {H : Hp} {E : XK} (hr : Room 0 (cxOf CX0 P w K mg base N_law_with "_law_with" (defScope s_law_with) T.f_law_with cdv A outer s1 H E).nox.A) :
    PDSs (cxOf CX0 P w K mg base N_law_with "_law_with" (defScope s_law_with) T.f_law_with cdv A outer s1 H E).nox (defBody s_law_with) law_with_1 :=
  (dss_one (ds_ret (dm_of (d_add (d_add (d_sl (d_var (pv 0)) do_none (do_some (d_var (pv 1)))) (d_lst (da_cons (d_fz (d_lst (da_cons (d_var (pv 2)) (da_cons (d_var (pv 3)) (da_cons (d_var (pv 4)) da_nil))))) da_nil))) (d_sl (d_var (pv 0)) (do_some (d_add (d_var (pv 1)) d_int)) do_none)))))
theorem dv_law_cost  {cdv : Value} {A : Around} {outer : List Env} {s1 : Shared} {H : Hp} {E : XK} (hr : Room 0 (cxOf CX0 P w K mg base N_law_cost "_law_cost" (defScope s_law_cost) T.f_law_cost cdv A outer s1 H E).nox.A) :
    PDSs (cxOf CX0 P w K mg base N_law_cost "_law_cost" (defScope s_law_cost) T.f_law_cost cdv A outer s1 H E).nox (defBody s_law_cost) law_cost_1 :=
  (dss_one (ds_ret (dm_of (d_add (d_add (d_sl (d_var (pv 0)) do_none (do_some (d_var (pv 1)))) (d_lst (da_cons (d_var (pv 2)) da_nil))) (d_sl (d_var (pv 0)) (do_some (d_add (d_var (pv 1)) d_int)) do_none)))))
theorem dv_law_about_costs (G_law_used : FnOk P w K mg base CX0 1 T.f_law_used T.d_law_used ["edges", "packing"] (spF K (spS sp_law_used.s))) (G_law_cost : FnOk P w K mg base CX0 1 T.f_law_cost T.d_law_cost ["costs", "number", "cost"] (spF K (spS sp_law_cost.s))) (G_law_with : FnOk P w K mg base CX0 1 T.f_law_with T.d_law_with ["packing", "at", "amount", "places", "ties"] (spF K (spS sp_law_with.s))) {cdv : Value} {A : Around} {outer : List Env} {s1 : Shared} {H : Hp} {E : XK} (hr : Room 1 (cxOf CX0 P w K mg base N_law_about_costs "_law_about_costs" (defScope s_law_about_costs) T.f_law_about_costs cdv A outer s1 H E).nox.A) :
    PDSs (cxOf CX0 P w K mg base N_law_about_costs "_law_about_costs" (defScope s_law_about_costs) T.f_law_about_costs cdv A outer s1 H E).nox (defBody s_law_about_costs) law_about_costs_1 :=
  (dss_cons (ds_asg (i := 3) sc_law_about_costs.nd rfl (by first | exact Or.inl rfl | exact Or.inr rfl) (dm_of (d_ix hr (d_var (pv 0)) d_int))) (dss_cons (ds_asg (i := 4) sc_law_about_costs.nd rfl (by first | exact Or.inl rfl | exact Or.inr rfl) (dm_of (d_ix hr (d_var (pv 0)) d_int))) (dss_cons (ds_asg (i := 5) sc_law_about_costs.nd rfl (by first | exact Or.inl rfl | exact Or.inr rfl) (dm_of (d_ix hr (d_var (pv 4)) (d_var (pv 1))))) (dss_cons (ds_asg (i := 6) sc_law_about_costs.nd rfl (by first | exact Or.inl rfl | exact Or.inr rfl) (dm_of (d_ix hr (d_ix hr (d_var (pv 5)) d_int) (d_var (pv 2))))) (dss_cons (ds_asg (i := 7) sc_law_about_costs.nd rfl (by first | exact Or.inl rfl | exact Or.inr rfl) (dm_of (d_fz (d_call G_law_used (spS_mono _) (hr.mono (by decide)) (by rfl) T.m_law_used T.F_law_used.kp T.b_law_used pass0 (da_cons (d_ix hr (d_var (pv 0)) d_int) (da_cons (d_var (pv 4)) da_nil)))))) (dss_cons (ds_setLcF (i := 8) (own := [("j", 13)]) rfl sc_law_about_costs.nd rfl rfl (sw_true rfl rfl rfl (by decide +kernel)) (di_rng1 (by rfl) T.range (d_len (by rfl) T.len (da_cons (d_var (pv 3)) da_nil))) (blkOk_by (by kernel_rfl)) (by decide) (fun _ _ _ _ _ => (dg_name (i := 13) sc_law_about_costs.nd rfl (by first | exact Or.inl rfl | exact Or.inr rfl))) (fun _ _ _ _ _ => dts_nil) (fun _ _ _ _ _ => (d_ix hr (d_var (pv 7)) (d_var (pv 13))))) (dss_cons (ds_setLcF (i := 9) (own := [("j", 13)]) rfl sc_law_about_costs.nd rfl rfl (sw_true rfl rfl rfl (by decide +kernel)) (di_rng1 (by rfl) T.range (d_len (by rfl) T.len (da_cons (d_var (pv 3)) da_nil))) (blkOk_by (by kernel_rfl)) (by decide) (fun _ _ _ _ _ => (dg_name (i := 13) sc_law_about_costs.nd rfl (by first | exact Or.inl rfl | exact Or.inr rfl))) (fun _ _ _ _ _ => dts_nil) (fun _ _ _ _ _ => (d_add (d_ix hr (d_var (pv 7)) (d_var (pv 13))) (d_mul (d_ix hr (d_var (pv 5)) d_int) (d_intc (by rfl) T.int (da_cons (d_in_ hr (d_var (pv 13)) (d_ix hr (d_var (pv 5)) d_int)) da_nil)))))) (dss_cons (ds_setLcF (i := 10) (own := [("node", 14)]) rfl sc_law_about_costs.nd rfl rfl (sw_true rfl rfl rfl (by decide +kernel)) (di_seq (d_ix hr (d_var (pv 0)) d_int)) (blkOk_by (by kernel_rfl)) (by decide) (fun _ _ _ _ _ => (dg_name (i := 14) sc_law_about_costs.nd rfl (by first | exact Or.inl rfl | exact Or.inr rfl))) (fun _ _ _ _ _ => (dts_one (t_ne hr (d_var (pv 14)) (d_ix hr (d_ix hr (d_var (pv 5)) d_int) d_int)))) (fun _ _ _ _ _ => (d_var (pv 14)))) (dss_cons (ds_setLcF (i := 11) (own := [("node", 14)]) rfl sc_law_about_costs.nd rfl rfl (sw_true rfl rfl rfl (by decide +kernel)) (di_seq (d_ix hr (d_var (pv 0)) d_int)) (blkOk_by (by kernel_rfl)) (by decide) (fun _ _ _ _ _ => (dg_name (i := 14) sc_law_about_costs.nd rfl (by first | exact Or.inl rfl | exact Or.inr rfl))) (fun _ _ _ _ _ => (dts_one (t_ne hr (d_var (pv 14)) (d_ix hr (d_ix hr (d_var (pv 5)) d_int) (d_sub (d_len (by rfl) T.len (da_cons (d_ix hr (d_var (pv 5)) d_int) da_nil)) d_int))))) (fun _ _ _ _ _ => (d_var (pv 14)))) (dss_cons (ds_asg (i := 12) sc_law_about_costs.nd rfl (by first | exact Or.inl rfl | exact Or.inr rfl) (dm_of (d_lst (da_cons (d_fz (d_lst (da_cons (d_ix hr (d_var (pv 0)) d_int) (da_cons (d_ix hr (d_var (pv 0)) d_int) (da_cons (d_var (pv 3)) (da_cons (d_fz (d_rev (d_var (pv 4)))) da_nil)))))) (da_cons (d_fz (d_lst (da_cons (d_ix hr (d_var (pv 0)) d_int) (da_cons (d_ix hr (d_var (pv 0)) d_int) (da_cons (d_var (pv 3)) (da_cons (d_fz (d_lst da_nil)) da_nil)))))) da_nil))))) (dss_cons (ds_app (d_var (pv 12)) (d_fz (d_lst (da_cons (d_ix hr (d_var (pv 0)) d_int) (da_cons (d_ix hr (d_var (pv 0)) d_int) (da_cons (d_var (pv 8)) (da_cons (d_var (pv 4)) da_nil))))))) (dss_cons (ds_app (d_var (pv 12)) (d_fz (d_lst (da_cons (d_ix hr (d_var (pv 0)) d_int) (da_cons (d_ix hr (d_var (pv 0)) d_int) (da_cons (d_fz (d_call G_law_cost (spS_mono _) (hr.mono (by decide)) (by rfl) T.m_law_cost T.F_law_cost.kp T.b_law_cost pass0 (da_cons (d_var (pv 8)) (da_cons (d_var (pv 6)) (da_cons (d_sub (d_ix hr (d_var (pv 7)) (d_var (pv 6))) d_int) da_nil))))) (da_cons (d_var (pv 4)) da_nil))))))) (dss_cons (ds_app (d_var (pv 12)) (d_fz (d_lst (da_cons (d_ix hr (d_var (pv 0)) d_int) (da_cons (d_ix hr (d_var (pv 0)) d_int) (da_cons (d_var (pv 9)) (da_cons (d_fz (d_add (d_var (pv 4)) (d_lst (da_cons (d_var (pv 5)) da_nil)))) da_nil))))))) (dss_cons (ds_app (d_var (pv 12)) (d_fz (d_lst (da_cons (d_ix hr (d_var (pv 0)) d_int) (da_cons (d_ix hr (d_var (pv 0)) d_int) (da_cons (d_fz (d_call G_law_cost (spS_mono _) (hr.mono (by decide)) (by rfl) T.m_law_cost T.F_law_cost.kp T.b_law_cost pass0 (da_cons (d_var (pv 9)) (da_cons (d_var (pv 6)) (da_cons (d_sub (d_ix hr (d_var (pv 9)) (d_var (pv 6))) d_int) da_nil))))) (da_cons (d_fz (d_add (d_var (pv 4)) (d_lst (da_cons (d_var (pv 5)) da_nil)))) da_nil))))))) (dss_cons (ds_app (d_var (pv 12)) (d_fz (d_lst (da_cons (d_ix hr (d_var (pv 0)) d_int) (da_cons (d_ix hr (d_var (pv 0)) d_int) (da_cons (d_fz (d_call G_law_cost (spS_mono _) (hr.mono (by decide)) (by rfl) T.m_law_cost T.F_law_cost.kp T.b_law_cost pass0 (da_cons (d_var (pv 3)) (da_cons (d_var (pv 6)) (da_cons d_non da_nil))))) (da_cons (d_fz (d_add (d_var (pv 4)) (d_lst (da_cons (d_var (pv 5)) (da_cons (d_var (pv 5)) da_nil))))) da_nil))))))) (dss_cons (ds_app (d_var (pv 12)) (d_fz (d_lst (da_cons (d_ix hr (d_var (pv 0)) d_int) (da_cons (d_ix hr (d_var (pv 0)) d_int) (da_cons (d_var (pv 3)) (da_cons (d_fz (d_call G_law_with (spS_mono _) (hr.mono (by decide)) (by rfl) T.m_law_with T.F_law_with.kp T.b_law_with pass0 (da_cons (d_var (pv 4)) (da_cons (d_var (pv 1)) (da_cons d_int (da_cons (d_ix hr (d_var (pv 5)) d_int) (da_cons (d_ix hr (d_var (pv 5)) d_int) da_nil))))))) da_nil))))))) (dss_cons (ds_app (d_var (pv 12)) (d_fz (d_lst (da_cons (d_ix hr (d_var (pv 0)) d_int) (da_cons (d_ix hr (d_var (pv 0)) d_int) (da_cons (d_var (pv 3)) (da_cons (d_fz (d_call G_law_with (spS_mono _) (hr.mono (by decide)) (by rfl) T.m_law_with T.F_law_with.kp T.b_law_with pass0 (da_cons (d_var (pv 4)) (da_cons (d_var (pv 1)) (da_cons (d_sub d_int (d_ix hr (d_var (pv 5)) d_int)) (da_cons (d_ix hr (d_var (pv 5)) d_int) (da_cons (d_ix hr (d_var (pv 5)) d_int) da_nil))))))) da_nil))))))) (dss_cons (ds_app (d_var (pv 12)) (d_fz (d_lst (da_cons (d_var (pv 10)) (da_cons (d_ix hr (d_var (pv 0)) d_int) (da_cons (d_var (pv 3)) (da_cons (d_var (pv 4)) da_nil))))))) (dss_cons (ds_app (d_var (pv 12)) (d_fz (d_lst (da_cons (d_ix hr (d_var (pv 0)) d_int) (da_cons (d_var (pv 11)) (da_cons (d_var (pv 3)) (da_cons (d_var (pv 4)) da_nil))))))) (dss_one (ds_ret (dm_of (d_lc (own := [("paper", 15)]) rfl sc_law_about_costs.nd (di_seq (d_var (pv 12))) (blkOk_by (by kernel_rfl)) (by decide) (fun _ _ _ _ _ => (dg_name (i := 15) sc_law_about_costs.nd rfl (by first | exact Or.inl rfl | exact Or.inr rfl))) (fun _ _ _ _ _ => dts_nil) (fun _ _ _ _ _ => (d_fz (d_lst (da_cons (d_ix hr (d_var (pv 0)) d_int) (da_cons (d_ix hr (d_var (pv 0)) d_int) (da_cons (d_ix hr (d_var (pv 15)) d_int) (da_cons (d_ix hr (d_var (pv 15)) d_int) (da_cons (d_ix hr (d_var (pv 15)) d_int) (da_cons (d_ix hr (d_var (pv 15)) d_int) da_nil))))))))))))))))))))))))))))))))
theorem dv_law_about_rows (G_law_with : FnOk P w K mg base CX0 1 T.f_law_with T.d_law_with ["packing", "at", "amount", "places", "ties"] (spF K (spS sp_law_with.s))) {cdv : Value} {A : Around} {outer : List Env} {s1 : Shared} {H : Hp} {E : XK} (hr : Room 1 (cxOf CX0 P w K mg base N_law_about_rows "_law_about_rows" (defScope s_law_about_rows) T.f_law_about_rows cdv A outer s1 H E).nox.A) :
    PDSs (cxOf CX0 P w K mg base N_law_about_rows "_law_about_rows" (defScope s_law_about_rows) T.f_law_about_rows cdv A outer s1 H E).nox (defBody s_law_about_rows) law_about_rows_1 :=
  (dss_cons (ds_asg (i := 4) sc_law_about_rows.nd rfl (by first | exact Or.inl rfl | exact Or.inr rfl) (dm_of (d_ix hr (d_var (pv 0)) d_int))) (dss_cons (ds_asg (i := 5) sc_law_about_rows.nd rfl (by first | exact Or.inl rfl | exact Or.inr rfl) (dm_of (d_ix hr (d_var (pv 4)) (d_var (pv 1))))) (dss_cons (ds_asg (i := 6) sc_law_about_rows.nd rfl (by first | exact Or.inl rfl | exact Or.inr rfl) (dm_of (d_ix hr (d_var (pv 5)) d_int))) (dss_cons (ds_asg (i := 7) sc_law_about_rows.nd rfl (by first | exact Or.inl rfl | exact Or.inr rfl) (dm_of (d_ix hr (d_var (pv 5)) d_int))) (dss_cons (ds_asg (i := 8) sc_law_about_rows.nd rfl (by first | exact Or.inl rfl | exact Or.inr rfl) (dm_of (d_ix hr (d_var (pv 6)) (d_var (pv 2))))) (dss_cons (ds_asg (i := 9) sc_law_about_rows.nd rfl (by first | exact Or.inl rfl | exact Or.inr rfl) (dm_of (d_len (by rfl) T.len (da_cons (d_ix hr (d_var (pv 0)) d_int) da_nil)))) (dss_cons (ds_asg (i := 10) sc_law_about_rows.nd rfl (by first | exact Or.inl rfl | exact Or.inr rfl) (dm_of (d_fz (d_add (d_ix hr (d_var (pv 0)) d_int) (d_lst (da_cons (d_fz (d_lst (da_cons (d_var (pv 8)) da_nil))) (da_cons (d_fz (d_lst (da_cons (d_ix hr (d_var (pv 6)) (d_add (d_var (pv 2)) d_int)) da_nil))) (da_cons (d_fz (d_lst (da_cons (d_ix hr (d_var (pv 6)) (d_sub (d_len (by rfl) T.len (da_cons (d_var (pv 6)) da_nil)) d_int)) da_nil))) da_nil)))))))) (dss_cons (ds_asg (i := 10) sc_law_about_rows.nd rfl (by first | exact Or.inl rfl | exact Or.inr rfl) (dm_of (d_fz (d_add (d_var (pv 10)) (d_lst (da_cons (d_fz (d_sort (by rfl) T.sorted (d_lst (da_cons (d_var (pv 8)) (da_cons (d_var (pv 3)) da_nil))))) (da_cons (d_fz (d_sort (by rfl) T.sorted (d_lst (da_cons (d_var (pv 8)) (da_cons (d_var (pv 3)) da_nil))))) da_nil))))))) (dss_cons (ds_asg (i := 11) sc_law_about_rows.nd rfl (by first | exact Or.inl rfl | exact Or.inr rfl) (dm_of (d_lst (da_cons (d_fz (d_lst (da_cons (d_var (pv 6)) (da_cons (d_fz (d_add (d_add (d_sl (d_var (pv 7)) do_none (do_some (d_var (pv 2)))) (d_lst (da_cons (d_var (pv 9)) da_nil))) (d_sl (d_var (pv 7)) (do_some (d_add (d_var (pv 2)) d_int)) do_none))) da_nil)))) (da_cons (d_fz (d_lst (da_cons (d_var (pv 6)) (da_cons (d_fz (d_add (d_add (d_sl (d_var (pv 7)) do_none (do_some (d_var (pv 2)))) (d_lst (da_cons (d_add (d_var (pv 9)) d_int) da_nil))) (d_sl (d_var (pv 7)) (do_some (d_add (d_var (pv 2)) d_int)) do_none))) da_nil)))) da_nil))))) (dss_cons (ds_app (d_var (pv 11)) (d_fz (d_lst (da_cons (d_var (pv 6)) (da_cons (d_fz (d_sl (d_var (pv 7)) do_none (do_some (d_sub (d_len (by rfl) T.len (da_cons (d_var (pv 7)) da_nil)) d_int)))) da_nil))))) (dss_cons (ds_app (d_var (pv 11)) (d_fz (d_lst (da_cons (d_var (pv 6)) (da_cons (d_fz (d_add (d_var (pv 7)) (d_lst (da_cons (d_add (d_var (pv 9)) d_int) da_nil)))) da_nil))))) (dss_cons (ds_app (d_var (pv 11)) (d_fz (d_lst (da_cons (d_var (pv 6)) (da_cons (d_fz (d_add (d_add (d_sl (d_var (pv 7)) do_none (do_some (d_var (pv 2)))) (d_lst (da_cons (d_sub (d_ix hr (d_var (pv 7)) (d_var (pv 2))) (d_len (by rfl) T.len (da_cons (d_var (pv 10)) da_nil))) da_nil))) (d_sl (d_var (pv 7)) (do_some (d_add (d_var (pv 2)) d_int)) do_none))) da_nil))))) (dss_cons (ds_app (d_var (pv 11)) (d_fz (d_lst (da_cons (d_var (pv 6)) (da_cons (d_fz (d_add (d_add (d_sl (d_var (pv 7)) do_none (do_some (d_var (pv 2)))) (d_lst (da_cons (d_add (d_ix hr (d_var (pv 7)) (d_var (pv 2))) (d_len (by rfl) T.len (da_cons (d_var (pv 10)) da_nil))) da_nil))) (d_sl (d_var (pv 7)) (do_some (d_add (d_var (pv 2)) d_int)) do_none))) da_nil))))) (dss_cons (ds_app (d_var (pv 11)) (d_fz (d_lst (da_cons (d_fz (d_add (d_add (d_sl (d_var (pv 6)) do_none (do_some (d_add (d_var (pv 2)) d_int))) (d_lst (da_cons (d_var (pv 3)) (da_cons (d_var (pv 8)) da_nil)))) (d_sl (d_var (pv 6)) (do_some (d_add (d_var (pv 2)) d_int)) do_none))) (da_cons (d_fz (d_add (d_add (d_sl (d_var (pv 7)) do_none (do_some (d_var (pv 2)))) (d_lst (da_cons (d_add (d_var (pv 9)) d_int) (da_cons (d_add (d_var (pv 9)) d_int) da_nil)))) (d_sl (d_var (pv 7)) (do_some (d_var (pv 2))) do_none))) da_nil))))) (dss_cons (ds_app (d_var (pv 11)) (d_fz (d_lst (da_cons (d_fz (d_lst da_nil)) (da_cons (d_fz (d_lst da_nil)) da_nil))))) (dss_cons (ds_asg (i := 12) sc_law_about_rows.nd rfl (by first | exact Or.inl rfl | exact Or.inr rfl) (dm_of (d_fz (d_add (d_ix hr (d_var (pv 0)) d_int) (d_lst (da_cons d_non (da_cons d_non (da_cons d_non (da_cons d_non (da_cons d_non da_nil)))))))))) (dss_cons (ds_asg (i := 13) sc_law_about_rows.nd rfl (by first | exact Or.inl rfl | exact Or.inr rfl) (dm_of (d_lst da_nil))) (dss_frz 11 (dss_cons (ds_for PassesOwn.never rfl (di_seq (d_var (pv 11))) (dg_name (i := 14) sc_law_about_rows.nd rfl (by first | exact Or.inl rfl | exact Or.inr rfl)) (dss_cons (ds_asg (i := 15) sc_law_about_rows.nd rfl (by first | exact Or.inl rfl | exact Or.inr rfl) (dm_of (d_fz (d_call G_law_with (spS_mono _) (hr.mono (by decide)) (by rfl) T.m_law_with T.F_law_with.kp T.b_law_with pass0 (da_cons (d_var (pv 4)) (da_cons (d_var (pv 1)) (da_cons (d_ix hr (d_var (pv 5)) d_int) (da_cons (d_ix hr (d_var (pv 14)) d_int) (da_cons (d_ix hr (d_var (pv 14)) d_int) da_nil))))))))) (dss_one (ds_app (d_var (pv 13)) (d_fz (d_lst (da_cons (d_ix hr (d_var (pv 0)) d_int) (da_cons (d_var (pv 10)) (da_cons (d_var (pv 12)) (da_cons (d_ix hr (d_var (pv 0)) d_int) (da_cons (d_ix hr (d_var (pv 0)) d_int) (da_cons (d_var (pv 15)) da_nil)))))))))))) (dss_one (ds_ret (dm_move (pv 13)))))))))))))))))))))))
theorem dv_law_about_few  {cdv : Value} {A : Around} {outer : List Env} {s1 : Shared} {H : Hp} {E : XK} (hr : Room 0 (cxOf CX0 P w K mg base N_law_about_few "_law_about_few" (defScope s_law_about_few) T.f_law_about_few cdv A outer s1 H E).nox.A) :
    PDSs (cxOf CX0 P w K mg base N_law_about_few "_law_about_few" (defScope s_law_about_few) T.f_law_about_few cdv A outer s1 H E).nox (defBody s_law_about_few) law_about_few_1 :=
  (dss_cons (ds_asg (i := 4) sc_law_about_few.nd rfl (by first | exact Or.inl rfl | exact Or.inr rfl) (dm_of (d_fz (d_add (d_ix hr (d_var (pv 0)) d_int) (d_lc (own := [("node", 13)]) rfl sc_law_about_few.nd (di_seq (d_lst (da_cons (d_var (pv 1)) da_nil))) (blkOk_by (by kernel_rfl)) (by decide) (fun _ _ _ _ _ => (dg_name (i := 13) sc_law_about_few.nd rfl (by first | exact Or.inl rfl | exact Or.inr rfl))) (fun _ _ _ _ _ => (dts_one (t_nin hr (d_var (pv 13)) (d_ix hr (d_var (pv 0)) d_int)))) (fun _ _ _ _ _ => (d_var (pv 13)))))))) (dss_cons (ds_asg (i := 5) sc_law_about_few.nd rfl (by first | exact Or.inl rfl | exact Or.inr rfl) (dm_of (d_fz (d_add (d_ix hr (d_var (pv 0)) d_int) (d_lc (own := [("node", 13)]) rfl sc_law_about_few.nd (di_seq (d_lst (da_cons (d_var (pv 1)) da_nil))) (blkOk_by (by kernel_rfl)) (by decide) (fun _ _ _ _ _ => (dg_name (i := 13) sc_law_about_few.nd rfl (by first | exact Or.inl rfl | exact Or.inr rfl))) (fun _ _ _ _ _ => (dts_one (t_nin hr (d_var (pv 13)) (d_ix hr (d_var (pv 0)) d_int)))) (fun _ _ _ _ _ => (d_var (pv 13)))))))) (dss_cons (ds_asg (i := 6) sc_law_about_few.nd rfl (by first | exact Or.inl rfl | exact Or.inr rfl) (dm_of (d_fz (d_add (d_ix hr (d_var (pv 0)) d_int) (d_lst (da_cons (d_fz (d_lst (da_cons (d_pow d_int d_int) (da_cons (d_fz (d_lst (da_cons (d_var (pv 1)) da_nil))) (da_cons (d_fz (d_lst da_nil)) da_nil))))) da_nil)))))) (dss_cons (ds_asg (i := 7) sc_law_about_few.nd rfl (by first | exact Or.inl rfl | exact Or.inr rfl) (dm_of (d_fz (d_add (d_ix hr (d_var (pv 0)) d_int) (d_lst (da_cons (d_fz (d_lst (da_cons d_int (da_cons (d_fz (d_lst (da_cons (d_sub (d_var (pv 1)) (d_ix hr (d_var (pv 0)) d_int)) da_nil))) (da_cons (d_fz (d_lst da_nil)) da_nil))))) da_nil)))))) (dss_cons (ds_asg (i := 8) sc_law_about_few.nd rfl (by first | exact Or.inl rfl | exact Or.inr rfl) (dm_of (d_lst (da_cons (d_fz (d_lst (da_cons (d_ix hr (d_var (pv 0)) d_int) (da_cons (d_ix hr (d_var (pv 0)) d_int) (da_cons (d_ix hr (d_var (pv 0)) d_int) (da_cons (d_var (pv 4)) (da_cons (d_var (pv 5)) (da_cons (d_var (pv 6)) da_nil)))))))) (da_cons (d_fz (d_lst (da_cons (d_ix hr (d_var (pv 0)) d_int) (da_cons (d_ix hr (d_var (pv 0)) d_int) (da_cons (d_ix hr (d_var (pv 0)) d_int) (da_cons (d_var (pv 4)) (da_cons (d_var (pv 5)) (da_cons (d_var (pv 7)) da_nil)))))))) da_nil))))) (dss_cons (ds_app (d_var (pv 8)) (d_fz (d_lst (da_cons (d_ix hr (d_var (pv 0)) d_int) (da_cons (d_ix hr (d_var (pv 0)) d_int) (da_cons (d_ix hr (d_var (pv 0)) d_int) (da_cons (d_var (pv 4)) (da_cons (d_fz (d_lc (own := [("node", 13)]) rfl sc_law_about_few.nd (di_seq (d_var (pv 5))) (blkOk_by (by kernel_rfl)) (by decide) (fun _ _ _ _ _ => (dg_name (i := 13) sc_law_about_few.nd rfl (by first | exact Or.inl rfl | exact Or.inr rfl))) (fun _ _ _ _ _ => (dts_one (t_ne hr (d_var (pv 13)) (d_var (pv 1))))) (fun _ _ _ _ _ => (d_var (pv 13))))) (da_cons (d_var (pv 6)) da_nil))))))))) (dss_cons (ds_app (d_var (pv 8)) (d_fz (d_lst (da_cons (d_ix hr (d_var (pv 0)) d_int) (da_cons (d_ix hr (d_var (pv 0)) d_int) (da_cons (d_ix hr (d_var (pv 0)) d_int) (da_cons (d_fz (d_lc (own := [("node", 13)]) rfl sc_law_about_few.nd (di_seq (d_var (pv 4))) (blkOk_by (by kernel_rfl)) (by decide) (fun _ _ _ _ _ => (dg_name (i := 13) sc_law_about_few.nd rfl (by first | exact Or.inl rfl | exact Or.inr rfl))) (fun _ _ _ _ _ => (dts_one (t_ne hr (d_var (pv 13)) (d_var (pv 1))))) (fun _ _ _ _ _ => (d_var (pv 13))))) (da_cons (d_var (pv 5)) (da_cons (d_var (pv 6)) da_nil))))))))) (dss_cons (ds_if (t_gt (d_ix hr (d_var (pv 0)) d_int) d_int) (dss_cons (ds_asg (i := 9) sc_law_about_few.nd rfl (by first | exact Or.inl rfl | exact Or.inr rfl) (dm_of (d_fz (d_add (d_ix hr (d_var (pv 0)) d_int) (d_lst (da_cons (d_fz (d_sort (by rfl) T.sorted (d_lst (da_cons (d_var (pv 1)) (da_cons (d_var (pv 2)) (da_cons (d_var (pv 3)) da_nil)))))) (da_cons (d_fz (d_sort (by rfl) T.sorted (d_lst (da_cons (d_var (pv 1)) (da_cons (d_var (pv 2)) (da_cons (d_var (pv 3)) da_nil)))))) da_nil))))))) (dss_cons (ds_asg (i := 10) sc_law_about_few.nd rfl (by first | exact Or.inl rfl | exact Or.inr rfl) (dm_of (d_len (by rfl) T.len (da_cons (d_ix hr (d_var (pv 0)) d_int) da_nil)))) (dss_cons (ds_asg (i := 11) sc_law_about_few.nd rfl (by first | exact Or.inl rfl | exact Or.inr rfl) (dm_of (d_fz (d_add (d_var (pv 5)) (d_lc (own := [("node", 13)]) rfl sc_law_about_few.nd (di_seq (d_lst (da_cons (d_var (pv 3)) da_nil))) (blkOk_by (by kernel_rfl)) (by decide) (fun _ _ _ _ _ => (dg_name (i := 13) sc_law_about_few.nd rfl (by first | exact Or.inl rfl | exact Or.inr rfl))) (fun _ _ _ _ _ => (dts_one (t_nin hr (d_var (pv 13)) (d_var (pv 5))))) (fun _ _ _ _ _ => (d_var (pv 13)))))))) (dss_one (ds_for PassesOwn.never rfl (di_seq (d_lst (da_cons (d_fz (d_lst (da_cons (d_fz (d_lst (da_cons (d_var (pv 1)) (da_cons (d_var (pv 3)) da_nil)))) (da_cons (d_fz (d_lst (da_cons (d_var (pv 10)) da_nil))) da_nil)))) (da_cons (d_fz (d_lst (da_cons (d_fz (d_lst (da_cons (d_var (pv 1)) (da_cons (d_var (pv 2)) (da_cons (d_var (pv 3)) da_nil))))) (da_cons (d_fz (d_lst (da_cons (d_var (pv 10)) (da_cons (d_var (pv 10)) da_nil)))) da_nil)))) (da_cons (d_fz (d_lst (da_cons (d_fz (d_lst (da_cons (d_var (pv 1)) (da_cons (d_var (pv 2)) (da_cons (d_var (pv 3)) da_nil))))) (da_cons (d_fz (d_lst (da_cons (d_var (pv 10)) (da_cons (d_add (d_var (pv 10)) d_int) da_nil)))) da_nil)))) da_nil))))) (dg_name (i := 12) sc_law_about_few.nd rfl (by first | exact Or.inl rfl | exact Or.inr rfl)) (dss_one (ds_app (d_var (pv 8)) (d_fz (d_lst (da_cons (d_ix hr (d_var (pv 0)) d_int) (da_cons (d_var (pv 9)) (da_cons (d_fz (d_add (d_ix hr (d_var (pv 0)) d_int) (d_lst (da_cons d_int (da_cons d_non da_nil))))) (da_cons (d_var (pv 4)) (da_cons (d_var (pv 11)) (da_cons (d_fz (d_lst (da_cons (d_fz (d_lst (da_cons d_int (da_cons (d_ix hr (d_var (pv 12)) d_int) (da_cons (d_ix hr (d_var (pv 12)) d_int) da_nil))))) da_nil))) da_nil))))))))))))))) dss_nil) (dss_one (ds_ret (dm_move (pv 8))))))))))))
theorem dv_law (G_law_net : FnOk P w K mg base CX0 3 T.f_law_net T.d_law_net ["script", "at"] (spF K (spS sp_law_net.s))) (G_law_cell : FnOk P w K mg base CX0 1 T.f_law_cell T.d_law_cell ["script", "k"] (spF K (spS sp_law_cell.s))) (G_law_digits : FnOk P w K mg base CX0 1 T.f_law_digits T.d_law_digits ["cell", "sizes"] (spF K (spS sp_law_digits.s))) (G_law_held : FnOk P w K mg base CX0 1 T.f_law_held T.d_law_held ["nodes", "chosen"] (spF K (spS sp_law_held.s))) (G_law_drawn_row : FnOk P w K mg base CX0 2 T.f_law_drawn_row T.d_law_drawn_row ["nodes", "edges", "cell"] (spF K (spS sp_law_drawn_row.s))) (G_law_used : FnOk P w K mg base CX0 1 T.f_law_used T.d_law_used ["edges", "packing"] (spF K (spS sp_law_used.s))) (G_law_about_few : FnOk P w K mg base CX0 1 T.f_law_about_few T.d_law_about_few ["base", "one", "two", "three"] (spF K (spS sp_law_about_few.s))) (G_law_about_costs : FnOk P w K mg base CX0 2 T.f_law_about_costs T.d_law_about_costs ["base", "at", "k"] (spF K (spS sp_law_about_costs.s))) (G_law_about_rows : FnOk P w K mg base CX0 2 T.f_law_about_rows T.d_law_about_rows ["base", "at", "k", "other"] (spF K (spS sp_law_about_rows.s))) (G_law_asked : FnOk P w K mg base CX0 3 T.f_law_asked T.d_law_asked ["question", "form"] (spF K (spS sp_law_asked.s))) {cdv : Value} {A : Around} {outer : List Env} {s1 : Shared} {H : Hp} {E : XK} (hr : Room 3 (cxOf CX0 P w K mg base N_law "law" (defScope s_law) T.f_law cdv A outer s1 H E).nox.A) :
    PDSs (cxOf CX0 P w K mg base N_law "law" (defScope s_law) T.f_law cdv A outer s1 H E).nox (defBody s_law) law_1 :=
  (dss_cons (ds_asg (i := 1) sc_law.nd rfl (by first | exact Or.inl rfl | exact Or.inr rfl) (dm_of (d_fz (d_call G_law_net (spS_mono _) (hr.mono (by decide)) (by rfl) T.m_law_net T.F_law_net.kp T.b_law_net pass0 (da_cons (d_var (pv 0)) (da_cons d_int da_nil)))))) (dss_cons (ds_asg (i := 2) sc_law.nd rfl (by first | exact Or.inl rfl | exact Or.inr rfl) (dm_of (d_ix hr (d_var (pv 1)) d_int))) (dss_cons (ds_asg (i := 3) sc_law.nd rfl (by first | exact Or.inl rfl | exact Or.inr rfl) (dm_of (d_fz (d_call G_law_digits (spS_mono _) (hr.mono (by decide)) (by rfl) T.m_law_digits T.F_law_digits.kp T.b_law_digits pass0 (da_cons (d_call G_law_cell (spS_mono _) (hr.mono (by decide)) (by rfl) T.m_law_cell T.F_law_cell.kp T.b_law_cell pass0 (da_cons (d_var (pv 0)) (da_cons d_int da_nil))) (da_cons (d_lst (da_cons d_int (da_cons d_int (da_cons d_int (da_cons d_int (da_cons d_int (da_cons d_int (da_cons d_int (da_cons d_int (da_cons d_int (da_cons d_int (da_cons d_int (da_cons d_int (da_cons d_int da_nil)))))))))))))) da_nil)))))) (dss_cons (ds_asg (i := 4) sc_law.nd rfl (by first | exact Or.inl rfl | exact Or.inr rfl) (dm_of (d_mod (d_intc (by rfl) T.int (da_cons (d_ix hr (d_var (pv 3)) d_int) da_nil)) (d_var (pv 2))))) (dss_cons (ds_asg (i := 5) sc_law.nd rfl (by first | exact Or.inl rfl | exact Or.inr rfl) (dm_of (d_mod (d_intc (by rfl) T.int (da_cons (d_add (d_add (d_var (pv 4)) d_int) (d_mod (d_ix hr (d_var (pv 3)) d_int) (d_max rfl (by rfl) T.max (da_cons d_int (da_cons (d_sub (d_var (pv 2)) d_int) da_nil))))) da_nil)) (d_var (pv 2))))) (dss_cons (ds_setLcF (i := 6) (own := [("node", 21)]) rfl sc_law.nd rfl rfl (sw_true rfl rfl rfl (by decide +kernel)) (di_rng1 (by rfl) T.range (d_var (pv 2))) (blkOk_by (by kernel_rfl)) (by decide) (fun _ _ _ _ _ => (dg_name (i := 21) sc_law.nd rfl (by first | exact Or.inl rfl | exact Or.inr rfl))) (fun _ _ _ _ _ => (dts_one (tw (tw_and (t_ne hr (d_var (pv 21)) (d_var (pv 4))) (tw_and1 (t_ne hr (d_var (pv 21)) (d_var (pv 5)))))))) (fun _ _ _ _ _ => (d_var (pv 21)))) (dss_cons (ds_asg (i := 7) sc_law.nd rfl (by first | exact Or.inl rfl | exact Or.inr rfl) (dm_of (d_fz (d_add (d_ix hr (d_var (pv 1)) d_int) (d_lst (da_cons (d_fz (d_call G_law_held (spS_mono _) (hr.mono (by decide)) (by rfl) T.m_law_held T.F_law_held.kp T.b_law_held pass0 (da_cons (d_var (pv 2)) (da_cons (d_lst (da_cons (d_var (pv 4)) (da_cons (d_var (pv 5)) da_nil))) da_nil)))) da_nil)))))) (dss_cons (ds_asg (i := 8) sc_law.nd rfl (by first | exact Or.inl rfl | exact Or.inr rfl) (dm_of (d_lc (own := [("k", 12)]) rfl sc_law.nd (di_rng1 (by rfl) T.range d_int) (blkOk_by (by kernel_rfl)) (by decide) (fun _ _ _ _ _ => (dg_name (i := 12) sc_law.nd rfl (by first | exact Or.inl rfl | exact Or.inr rfl))) (fun _ _ _ _ _ => dts_nil) (fun _ _ _ _ _ => (d_fz (d_call G_law_drawn_row (spS_mono _) (hr.mono (by decide)) (by rfl) T.m_law_drawn_row T.F_law_drawn_row.kp T.b_law_drawn_row pass0 (da_cons (d_var (pv 2)) (da_cons (d_ix hr (d_var (pv 1)) d_int) (da_cons (d_call G_law_cell (spS_mono _) (hr.mono (by decide)) (by rfl) T.m_law_cell T.F_law_cell.kp T.b_law_cell pass0 (da_cons (d_var (pv 0)) (da_cons (d_add d_int (d_var (pv 12))) da_nil))) da_nil))))))))) (dss_cons (ds_if (t_ne hr (d_var (pv 4)) (d_var (pv 5))) (dss_cons (ds_app (d_var (pv 8)) (d_fz (d_lst (da_cons (d_add d_int (d_ix hr (d_var (pv 3)) d_int)) (da_cons (d_fz (d_lst (da_cons (d_var (pv 4)) (da_cons (d_var (pv 5)) da_nil)))) (da_cons (d_fz (d_lst (da_cons (d_len (by rfl) T.len (da_cons (d_ix hr (d_var (pv 1)) d_int) da_nil)) da_nil))) da_nil)))))) (dss_one (ds_asg (i := 8) sc_law.nd rfl (by first | exact Or.inl rfl | exact Or.inr rfl) (dm_of (d_add (d_sl (d_var (pv 8)) (do_some (d_ix hr (d_var (pv 3)) d_int)) do_none) (d_sl (d_var (pv 8)) do_none (do_some (d_ix hr (d_var (pv 3)) d_int)))))))) dss_nil) (dss_cons (ds_if (t_eq hr (d_ix hr (d_var (pv 3)) d_int) d_int) (dss_one (ds_asg (i := 8) sc_law.nd rfl (by first | exact Or.inl rfl | exact Or.inr rfl) (dm_of (d_mul (d_var (pv 8)) (d_add d_int (d_ix hr (d_var (pv 3)) d_int)))))) dss_nil) (dss_cons (ds_asg (i := 9) sc_law.nd rfl (by first | exact Or.inl rfl | exact Or.inr rfl) (dm_of (d_fz (d_call G_law_digits (spS_mono _) (hr.mono (by decide)) (by rfl) T.m_law_digits T.F_law_digits.kp T.b_law_digits pass0 (da_cons (d_call G_law_cell (spS_mono _) (hr.mono (by decide)) (by rfl) T.m_law_cell T.F_law_cell.kp T.b_law_cell pass0 (da_cons (d_var (pv 0)) (da_cons d_int da_nil))) (da_cons (d_mul (d_lst (da_cons d_int (da_cons (d_pow d_int d_int) da_nil))) (d_len (by rfl) T.len (da_cons (d_var (pv 7)) da_nil))) da_nil)))))) (dss_cons (ds_asg (i := 10) sc_law.nd rfl (by first | exact Or.inl rfl | exact Or.inr rfl) (dm_of (d_fz (d_call G_law_used (spS_mono _) (hr.mono (by decide)) (by rfl) T.m_law_used T.F_law_used.kp T.b_law_used pass0 (da_cons (d_var (pv 7)) (da_cons (d_var (pv 8)) da_nil)))))) (dss_cons (ds_asg (i := 11) sc_law.nd rfl (by first | exact Or.inl rfl | exact Or.inr rfl) (dm_of (d_lst da_nil))) (dss_cons (ds_for PassesOwn.never rfl (di_rng1 (by rfl) T.range (d_len (by rfl) T.len (da_cons (d_var (pv 7)) da_nil))) (dg_name (i := 12) sc_law.nd rfl (by first | exact Or.inl rfl | exact Or.inr rfl)) (dss_one (ds_app (d_var (pv 11)) (d_fz (d_ix hr (d_lst (da_cons (d_ix hr (d_var (pv 10)) (d_var (pv 12))) (da_cons (d_ix hr (d_var (pv 10)) (d_var (pv 12))) (da_cons (d_add (d_ix hr (d_var (pv 10)) (d_var (pv 12))) d_int) (da_cons (d_add (d_ix hr (d_var (pv 10)) (d_var (pv 12))) (d_ix hr (d_var (pv 9)) (d_add (d_mul d_int (d_var (pv 12))) d_int))) (da_cons d_non (da_cons (d_add (d_ix hr (d_var (pv 10)) (d_var (pv 12))) d_int) da_nil))))))) (d_ix hr (d_var (pv 9)) (d_mul d_int (d_var (pv 12))))))))) (dss_cons (ds_asg (i := 13) sc_law.nd rfl (by first | exact Or.inl rfl | exact Or.inr rfl) (dm_of (d_fz (d_call G_law_held (spS_mono _) (hr.mono (by decide)) (by rfl) T.m_law_held T.F_law_held.kp T.b_law_held pass0 (da_cons (d_var (pv 2)) (da_cons (d_add (d_lc (own := [("way", 22)]) rfl sc_law.nd (di_seq (d_var (pv 8))) (blkOk_by (by kernel_rfl)) (by decide) (fun _ _ _ _ _ => (dg_name (i := 22) sc_law.nd rfl (by first | exact Or.inl rfl | exact Or.inr rfl))) (fun _ _ _ _ _ => dts_nil) (fun _ _ _ _ _ => (d_ix hr (d_ix hr (d_var (pv 22)) d_int) d_int))) (d_lst (da_cons (d_mod (d_intc (by rfl) T.int (da_cons (d_ix hr (d_var (pv 3)) d_int) da_nil)) (d_var (pv 2))) da_nil))) da_nil)))))) (dss_cons (ds_asg (i := 13) sc_law.nd rfl (by first | exact Or.inl rfl | exact Or.inr rfl) (dm_of (d_fz (d_add (d_var (pv 13)) (d_sl (d_var (pv 13)) do_none (do_some (d_mod (d_intc (by rfl) T.int (da_cons (d_ix hr (d_var (pv 3)) d_int) da_nil)) d_int))))))) (dss_cons (ds_asg (i := 14) sc_law.nd rfl (by first | exact Or.inl rfl | exact Or.inr rfl) (dm_of (d_fz (d_rev (d_call G_law_held (spS_mono _) (hr.mono (by decide)) (by rfl) T.m_law_held T.F_law_held.kp T.b_law_held pass0 (da_cons (d_var (pv 2)) (da_cons (d_add (d_lc (own := [("way", 22)]) rfl sc_law.nd (di_seq (d_var (pv 8))) (blkOk_by (by kernel_rfl)) (by decide) (fun _ _ _ _ _ => (dg_name (i := 22) sc_law.nd rfl (by first | exact Or.inl rfl | exact Or.inr rfl))) (fun _ _ _ _ _ => dts_nil) (fun _ _ _ _ _ => (d_ix hr (d_ix hr (d_var (pv 22)) d_int) (d_sub (d_len (by rfl) T.len (da_cons (d_ix hr (d_var (pv 22)) d_int) da_nil)) d_int)))) (d_lst (da_cons (d_mod (d_intc (by rfl) T.int (da_cons (d_ix hr (d_var (pv 3)) d_int) da_nil)) (d_var (pv 2))) da_nil))) da_nil))))))) (dss_frz 11 (dss_frz 8 (dss_cons (ds_asg (i := 15) sc_law.nd rfl (by first | exact Or.inl rfl | exact Or.inr rfl) (dm_of (d_fz (d_lst (da_cons (d_var (pv 2)) (da_cons (d_var (pv 7)) (da_cons (d_var (pv 11)) (da_cons (d_var (pv 13)) (da_cons (d_var (pv 14)) (da_cons (d_var (pv 8)) da_nil)))))))))) (dss_cons (ds_asg (i := 16) sc_law.nd rfl (by first | exact Or.inl rfl | exact Or.inr rfl) (dm_of (d_fz (d_lst (da_cons (d_var (pv 15)) da_nil))))) (dss_cons (ds_if (t_gt (d_len (by rfl) T.len (da_cons (d_var (pv 6)) da_nil)) d_int) (dss_one (ds_asg (i := 16) sc_law.nd rfl (by first | exact Or.inl rfl | exact Or.inr rfl) (dm_of (d_fz (d_add (d_var (pv 16)) (d_call G_law_about_few (spS_mono _) (hr.mono (by decide)) (by rfl) T.m_law_about_few T.F_law_about_few.kp T.b_law_about_few pass0 (da_cons (d_var (pv 15)) (da_cons (d_var (pv 4)) (da_cons (d_var (pv 5)) (da_cons (d_ix hr (d_var (pv 6)) (d_mod (d_intc (by rfl) T.int (da_cons (d_ix hr (d_var (pv 3)) d_int) da_nil)) (d_len (by rfl) T.len (da_cons (d_var (pv 6)) da_nil)))) da_nil)))))))))) (dss_one (ds_asg (i := 16) sc_law.nd rfl (by first | exact Or.inl rfl | exact Or.inr rfl) (dm_of (d_fz (d_add (d_var (pv 16)) (d_call G_law_about_few (spS_mono _) (hr.mono (by decide)) (by rfl) T.m_law_about_few T.F_law_about_few.kp T.b_law_about_few pass0 (da_cons (d_var (pv 15)) (da_cons (d_var (pv 4)) (da_cons (d_var (pv 4)) (da_cons (d_var (pv 4)) da_nil))))))))))) (dss_cons (ds_setLcF (i := 17) (own := [("k", 12)]) rfl sc_law.nd rfl rfl (sw_true rfl rfl rfl (by decide +kernel)) (di_rng1 (by rfl) T.range (d_len (by rfl) T.len (da_cons (d_var (pv 8)) da_nil))) (blkOk_by (by kernel_rfl)) (by decide) (fun _ _ _ _ _ => (dg_name (i := 12) sc_law.nd rfl (by first | exact Or.inl rfl | exact Or.inr rfl))) (fun _ _ _ _ _ => (dts_one (t_gt (d_len (by rfl) T.len (da_cons (d_ix hr (d_ix hr (d_var (pv 8)) (d_var (pv 12))) d_int) da_nil)) d_int))) (fun _ _ _ _ _ => (d_var (pv 12)))) (dss_cons (ds_if (t_gt (d_len (by rfl) T.len (da_cons (d_var (pv 17)) da_nil)) d_int) (dss_cons (ds_asg (i := 18) sc_law.nd rfl (by first | exact Or.inl rfl | exact Or.inr rfl) (dm_of (d_ix hr (d_var (pv 17)) (d_mod (d_intc (by rfl) T.int (da_cons (d_ix hr (d_var (pv 3)) d_int) da_nil)) (d_len (by rfl) T.len (da_cons (d_var (pv 17)) da_nil)))))) (dss_cons (ds_asg (i := 12) sc_law.nd rfl (by first | exact Or.inl rfl | exact Or.inr rfl) (dm_of (d_mod (d_intc (by rfl) T.int (da_cons (d_ix hr (d_var (pv 3)) d_int) da_nil)) (d_len (by rfl) T.len (da_cons (d_ix hr (d_ix hr (d_var (pv 8)) (d_var (pv 18))) d_int) da_nil))))) (dss_cons (ds_asg (i := 19) sc_law.nd rfl (by first | exact Or.inl rfl | exact Or.inr rfl) (dm_of (d_mod (d_intc (by rfl) T.int (da_cons (d_add (d_add (d_ix hr (d_ix hr (d_ix hr (d_var (pv 8)) (d_var (pv 18))) d_int) (d_var (pv 12))) d_int) (d_mod (d_ix hr (d_var (pv 3)) d_int) (d_sub (d_var (pv 2)) d_int))) da_nil)) (d_var (pv 2))))) (dss_one (ds_asg (i := 16) sc_law.nd rfl (by first | exact Or.inl rfl | exact Or.inr rfl) (dm_of (d_fz (d_add (d_add (d_var (pv 16)) (d_call G_law_about_costs (spS_mono _) (hr.mono (by decide)) (by rfl) T.m_law_about_costs T.F_law_about_costs.kp T.b_law_about_costs pass0 (da_cons (d_var (pv 15)) (da_cons (d_var (pv 18)) (da_cons (d_var (pv 12)) da_nil))))) (d_call G_law_about_rows (spS_mono _) (hr.mono (by decide)) (by rfl) T.m_law_about_rows T.F_law_about_rows.kp T.b_law_about_rows pass0 (da_cons (d_var (pv 15)) (da_cons (d_var (pv 18)) (da_cons (d_var (pv 12)) (da_cons (d_var (pv 19)) da_nil))))))))))))) dss_nil) (dss_cons (ds_for PassesOwn.never rfl (di_seq (d_add (d_var (pv 16)) (d_lst (da_cons (d_var (pv 15)) da_nil)))) (dg_name (i := 20) sc_law.nd rfl (by first | exact Or.inl rfl | exact Or.inr rfl)) (dss_one (ds_if (t_not (t_val (d_call G_law_asked (spS_mono _) (hr.mono (by decide)) (by rfl) T.m_law_asked T.F_law_asked.kp T.b_law_asked pass0 (da_cons (d_var (pv 20)) (da_cons (d_ix hr (d_var (pv 3)) d_int) da_nil))))) (dss_one (ds_ret (dm_of d_bl))) dss_nil))) (dss_one (ds_ret (dm_of d_bl))))))))))))))))))))))))))))
end
end K05

namespace K05
open PySem L2 PL
section
variable {P : Program} {w : World} {K : PySem.W.Frag} {mg : Str → Option Value} {base : Heap} (T : Txt K mg)
theorem ok_is_row : FnOk P w K mg base CX0 1 T.f_is_row T.d_is_row ["nodes", "edges", "row"] (spF K (spS sp_is_row.s)) :=
  fn_okP sp_is_row T.F_is_row sc_is_row len_is_row fun cdv A outer s1 H E hr => ⟨is_row_1, dv_is_row T  hr, fun ds a pre => pu_is_row ds a pre⟩
theorem ok_has_double : FnOk P w K mg base CX0 1 T.f_has_double T.d_has_double ["items"] (spF K (spS sp_has_double.s)) :=
  fn_okP sp_has_double T.F_has_double sc_has_double len_has_double fun cdv A outer s1 H E hr => ⟨has_double_1, dv_has_double T  hr, fun ds a pre => pu_has_double ds a pre⟩
theorem ok_is_packing : FnOk P w K mg base CX0 2 T.f_is_packing T.d_is_packing ["nodes", "edges", "costs", "zeros", "ones", "packing"] (spF K (spS sp_is_packing.s)) :=
  fn_okP sp_is_packing T.F_is_packing sc_is_packing len_is_packing fun cdv A outer s1 H E hr => ⟨is_packing_1, dv_is_packing T (ok_is_row T) (ok_has_double T) hr, fun ds a pre => pu_is_packing ds a pre⟩
theorem ok_law_cell : FnOk P w K mg base CX0 1 T.f_law_cell T.d_law_cell ["script", "k"] (spF K (spS sp_law_cell.s)) :=
  fn_okP sp_law_cell T.F_law_cell sc_law_cell len_law_cell fun cdv A outer s1 H E hr => ⟨law_cell_1, dv_law_cell T  hr, fun ds a pre => pu_law_cell ds a pre⟩
theorem ok_law_digits : FnOk P w K mg base CX0 1 T.f_law_digits T.d_law_digits ["cell", "sizes"] (spF K (spS sp_law_digits.s)) :=
  fn_okP sp_law_digits T.F_law_digits sc_law_digits len_law_digits fun cdv A outer s1 H E hr => ⟨law_digits_1, dv_law_digits T  hr, fun ds a pre => pu_law_digits ds a pre⟩
theorem ok_law_held : FnOk P w K mg base CX0 1 T.f_law_held T.d_law_held ["nodes", "chosen"] (spF K (spS sp_law_held.s)) :=
  fn_okP sp_law_held T.F_law_held sc_law_held len_law_held fun cdv A outer s1 H E hr => ⟨law_held_1, dv_law_held T  hr, fun ds a pre => pu_law_held ds a pre⟩
theorem ok_law_small_edge : FnOk P w K mg base CX0 2 T.f_law_small_edge T.d_law_small_edge ["cell", "nodes", "edges", "loose"] (spF K (spS sp_law_small_edge.s)) :=
  fn_okP sp_law_small_edge T.F_law_small_edge sc_law_small_edge len_law_small_edge fun cdv A outer s1 H E hr => ⟨law_small_edge_1, dv_law_small_edge T (ok_law_digits T) (ok_law_held T) hr, fun ds a pre => pu_law_small_edge ds a pre⟩
theorem ok_law_wide_edges : FnOk P w K mg base CX0 2 T.f_law_wide_edges T.d_law_wide_edges ["cell", "nodes"] (spF K (spS sp_law_wide_edges.s)) :=
  fn_okP sp_law_wide_edges T.F_law_wide_edges sc_law_wide_edges len_law_wide_edges fun cdv A outer s1 H E hr => ⟨law_wide_edges_1, dv_law_wide_edges T (ok_law_digits T) (ok_law_held T) hr, fun ds a pre => pu_law_wide_edges ds a pre⟩
theorem ok_law_net : FnOk P w K mg base CX0 3 T.f_law_net T.d_law_net ["script", "at"] (spF K (spS sp_law_net.s)) :=
  fn_okP sp_law_net T.F_law_net sc_law_net len_law_net fun cdv A outer s1 H E hr => ⟨law_net_1, dv_law_net T (ok_law_cell T) (ok_law_digits T) (ok_law_wide_edges T) (ok_law_small_edge T) hr, fun ds a pre => pu_law_net ds a pre⟩
theorem ok_law_form : FnOk P w K mg base CX0 1 T.f_law_form T.d_law_form ["rows", "form"] (spF K (spS sp_law_form.s)) :=
  fn_okP sp_law_form T.F_law_form sc_law_form len_law_form fun cdv A outer s1 H E hr => ⟨law_form_1, dv_law_form T  hr, fun ds a pre => pu_law_form ds a pre⟩
theorem ok_law_drawn_row : FnOk P w K mg base CX0 2 T.f_law_drawn_row T.d_law_drawn_row ["nodes", "edges", "cell"] (spF K (spS sp_law_drawn_row.s)) :=
  fn_okP sp_law_drawn_row T.F_law_drawn_row sc_law_drawn_row len_law_drawn_row fun cdv A outer s1 H E hr => ⟨law_drawn_row_1, dv_law_drawn_row T (ok_law_digits T) hr, fun ds a pre => pu_law_drawn_row ds a pre⟩
theorem ok_law_used : FnOk P w K mg base CX0 1 T.f_law_used T.d_law_used ["edges", "packing"] (spF K (spS sp_law_used.s)) :=
  fn_okP sp_law_used T.F_law_used sc_law_used len_law_used fun cdv A outer s1 H E hr => ⟨law_used_1, dv_law_used T  hr, fun ds a pre => pu_law_used ds a pre⟩
theorem ok_law_packing : FnOk P w K mg base CX0 2 T.f_law_packing T.d_law_packing ["question"] (spF K (spS sp_law_packing.s)) :=
  fn_okP sp_law_packing T.F_law_packing sc_law_packing len_law_packing fun cdv A outer s1 H E hr => ⟨law_packing_1, dv_law_packing T (ok_law_used T) hr, fun ds a pre => pu_law_packing ds a pre⟩
theorem ok_law_paper : FnOk P w K mg base CX0 1 T.f_law_paper T.d_law_paper ["packing", "form"] (spF K (spS sp_law_paper.s)) :=
  fn_okP sp_law_paper T.F_law_paper sc_law_paper len_law_paper fun cdv A outer s1 H E hr => ⟨law_paper_1, dv_law_paper T  hr, fun ds a pre => pu_law_paper ds a pre⟩
theorem ok_law_asked : FnOk P w K mg base CX0 3 T.f_law_asked T.d_law_asked ["question", "form"] (spF K (spS sp_law_asked.s)) :=
  fn_okP sp_law_asked T.F_law_asked sc_law_asked len_law_asked fun cdv A outer s1 H E hr => ⟨law_asked_1, dv_law_asked T (ok_law_form T) (ok_law_paper T) (ok_is_packing T) (ok_law_packing T) hr, fun ds a pre => pu_law_asked ds a pre⟩
theorem ok_law_with : FnOk P w K mg base CX0 1 T.f_law_with T.d_law_with ["packing", "at", "amount", "places", "ties"] (spF K (spS sp_law_with.s)) :=
  fn_okP sp_law_with T.F_law_with sc_law_with len_law_with fun cdv A outer s1 H E hr => ⟨law_with_1, dv_law_with T  hr, fun ds a pre => pu_law_with ds a pre⟩
theorem ok_law_cost : FnOk P w K mg base CX0 1 T.f_law_cost T.d_law_cost ["costs", "number", "cost"] (spF K (spS sp_law_cost.s)) :=
  fn_okP sp_law_cost T.F_law_cost sc_law_cost len_law_cost fun cdv A outer s1 H E hr => ⟨law_cost_1, dv_law_cost T  hr, fun ds a pre => pu_law_cost ds a pre⟩
theorem ok_law_about_costs : FnOk P w K mg base CX0 2 T.f_law_about_costs T.d_law_about_costs ["base", "at", "k"] (spF K (spS sp_law_about_costs.s)) :=
  fn_okP sp_law_about_costs T.F_law_about_costs sc_law_about_costs len_law_about_costs fun cdv A outer s1 H E hr => ⟨law_about_costs_1, dv_law_about_costs T (ok_law_used T) (ok_law_cost T) (ok_law_with T) hr, fun ds a pre => pu_law_about_costs ds a pre⟩
theorem ok_law_about_rows : FnOk P w K mg base CX0 2 T.f_law_about_rows T.d_law_about_rows ["base", "at", "k", "other"] (spF K (spS sp_law_about_rows.s)) :=
  fn_okP sp_law_about_rows T.F_law_about_rows sc_law_about_rows len_law_about_rows fun cdv A outer s1 H E hr => ⟨law_about_rows_1, dv_law_about_rows T (ok_law_with T) hr, fun ds a pre => pu_law_about_rows ds a pre⟩
theorem ok_law_about_few : FnOk P w K mg base CX0 1 T.f_law_about_few T.d_law_about_few ["base", "one", "two", "three"] (spF K (spS sp_law_about_few.s)) :=
  fn_okP sp_law_about_few T.F_law_about_few sc_law_about_few len_law_about_few fun cdv A outer s1 H E hr => ⟨law_about_few_1, dv_law_about_few T  hr, fun ds a pre => pu_law_about_few ds a pre⟩
theorem ok_law : FnOk P w K mg base CX0 4 T.f_law T.d_law ["script"] (spF K (spS sp_law.s)) :=
  fn_okP sp_law T.F_law sc_law len_law fun cdv A outer s1 H E hr => ⟨law_1, dv_law T (ok_law_net T) (ok_law_cell T) (ok_law_digits T) (ok_law_held T) (ok_law_drawn_row T) (ok_law_used T) (ok_law_about_few T) (ok_law_about_costs T) (ok_law_about_rows T) (ok_law_asked T) hr, fun ds a pre => pu_law ds a pre⟩
end
end K05

namespace K05
open PySem L2 PL
theorem all_mk {l : PySem.W.OpenLaw} {w : World} {K : PySem.W.Frag} {h : Heap} {mg : Str → Option Value} {fa f_is_row f_has_double f_is_packing f_law_cell f_law_digits f_law_held f_law_small_edge f_law_wide_edges f_law_net f_law_form f_law_drawn_row f_law_used f_law_packing f_law_paper f_law_asked f_law_with f_law_cost f_law_about_costs f_law_about_rows f_law_about_few f_law : Addr} (X : K.In h) (G : h.Ns mainGlobals mg) (hfa : mg "law" = some (.ref fa)) {od_is_row an_is_row od_has_double an_has_double od_is_packing an_is_packing od_law_cell an_law_cell od_law_digits an_law_digits od_law_held an_law_held od_law_small_edge an_law_small_edge od_law_wide_edges an_law_wide_edges od_law_net an_law_net od_law_form an_law_form od_law_drawn_row an_law_drawn_row od_law_used an_law_used od_law_packing an_law_packing od_law_paper an_law_paper od_law_asked an_law_asked od_law_with an_law_with od_law_cost an_law_cost od_law_about_costs an_law_about_costs od_law_about_rows an_law_about_rows od_law_about_few an_law_about_few od_law an_law : Option Addr} {sl_is_row sl_has_double sl_is_packing sl_law_cell sl_law_digits sl_law_held sl_law_small_edge sl_law_wide_edges sl_law_net sl_law_form sl_law_drawn_row sl_law_used sl_law_packing sl_law_paper sl_law_asked sl_law_with sl_law_cost sl_law_about_costs sl_law_about_rows sl_law_about_few sl_law : Array (Option Value)} {oc_is_row kV_is_row dc_is_row pm_is_row cd_is_row ct_is_row oc_has_double kV_has_double dc_has_double pm_has_double cd_has_double ct_has_double oc_is_packing kV_is_packing dc_is_packing pm_is_packing cd_is_packing ct_is_packing oc_law_cell kV_law_cell dc_law_cell pm_law_cell cd_law_cell ct_law_cell oc_law_digits kV_law_digits dc_law_digits pm_law_digits cd_law_digits ct_law_digits oc_law_held kV_law_held dc_law_held pm_law_held cd_law_held ct_law_held oc_law_small_edge kV_law_small_edge dc_law_small_edge pm_law_small_edge cd_law_small_edge ct_law_small_edge oc_law_wide_edges kV_law_wide_edges dc_law_wide_edges pm_law_wide_edges cd_law_wide_edges ct_law_wide_edges oc_law_net kV_law_net dc_law_net pm_law_net cd_law_net ct_law_net oc_law_form kV_law_form dc_law_form pm_law_form cd_law_form ct_law_form oc_law_drawn_row kV_law_drawn_row dc_law_drawn_row pm_law_drawn_row cd_law_drawn_row ct_law_drawn_row oc_law_used kV_law_used dc_law_used pm_law_used cd_law_used ct_law_used oc_law_packing kV_law_packing dc_law_packing pm_law_packing cd_law_packing ct_law_packing oc_law_paper kV_law_paper dc_law_paper pm_law_paper cd_law_paper ct_law_paper oc_law_asked kV_law_asked dc_law_asked pm_law_asked cd_law_asked ct_law_asked oc_law_with kV_law_with dc_law_with pm_law_with cd_law_with ct_law_with oc_law_cost kV_law_cost dc_law_cost pm_law_cost cd_law_cost ct_law_cost oc_law_about_costs kV_law_about_costs dc_law_about_costs pm_law_about_costs cd_law_about_costs ct_law_about_costs oc_law_about_rows kV_law_about_rows dc_law_about_rows pm_law_about_rows cd_law_about_rows ct_law_about_rows oc_law_about_few kV_law_about_few dc_law_about_few pm_law_about_few cd_law_about_few ct_law_about_few oc_law kV_law dc_law pm_law cd_law ct_law : Value}
    (a_is_row : PySem.W.nsIn K mainGlobals "is_row" = some (some (.ref f_is_row))) (l_is_row : K.lookup f_is_row = some ⟨oc_is_row, od_is_row, .func (PySem.W.fnOf "is_row" "is_row" (defArgs s_is_row) (defBody s_is_row) (defScope s_is_row) .none kV_is_row dc_is_row pm_is_row an_is_row cd_is_row ct_is_row), sl_is_row⟩) (c_is_row : PySem.W.codeIn K cd_is_row "is_row" = true) (k_is_row : PySem.W.keepIn K (.ref f_is_row) = true)
    (a_has_double : PySem.W.nsIn K mainGlobals "has_double" = some (some (.ref f_has_double))) (l_has_double : K.lookup f_has_double = some ⟨oc_has_double, od_has_double, .func (PySem.W.fnOf "has_double" "has_double" (defArgs s_has_double) (defBody s_has_double) (defScope s_has_double) .none kV_has_double dc_has_double pm_has_double an_has_double cd_has_double ct_has_double), sl_has_double⟩) (c_has_double : PySem.W.codeIn K cd_has_double "has_double" = true) (k_has_double : PySem.W.keepIn K (.ref f_has_double) = true)
    (a_is_packing : PySem.W.nsIn K mainGlobals "is_packing" = some (some (.ref f_is_packing))) (l_is_packing : K.lookup f_is_packing = some ⟨oc_is_packing, od_is_packing, .func (PySem.W.fnOf "is_packing" "is_packing" (defArgs s_is_packing) (defBody s_is_packing) (defScope s_is_packing) .none kV_is_packing dc_is_packing pm_is_packing an_is_packing cd_is_packing ct_is_packing), sl_is_packing⟩) (c_is_packing : PySem.W.codeIn K cd_is_packing "is_packing" = true) (k_is_packing : PySem.W.keepIn K (.ref f_is_packing) = true)
    (a_law_cell : PySem.W.nsIn K mainGlobals "_law_cell" = some (some (.ref f_law_cell))) (l_law_cell : K.lookup f_law_cell = some ⟨oc_law_cell, od_law_cell, .func (PySem.W.fnOf "_law_cell" "_law_cell" (defArgs s_law_cell) (defBody s_law_cell) (defScope s_law_cell) .none kV_law_cell dc_law_cell pm_law_cell an_law_cell cd_law_cell ct_law_cell), sl_law_cell⟩) (c_law_cell : PySem.W.codeIn K cd_law_cell "_law_cell" = true) (k_law_cell : PySem.W.keepIn K (.ref f_law_cell) = true)
    (a_law_digits : PySem.W.nsIn K mainGlobals "_law_digits" = some (some (.ref f_law_digits))) (l_law_digits : K.lookup f_law_digits = some ⟨oc_law_digits, od_law_digits, .func (PySem.W.fnOf "_law_digits" "_law_digits" (defArgs s_law_digits) (defBody s_law_digits) (defScope s_law_digits) .none kV_law_digits dc_law_digits pm_law_digits an_law_digits cd_law_digits ct_law_digits), sl_law_digits⟩) (c_law_digits : PySem.W.codeIn K cd_law_digits "_law_digits" = true) (k_law_digits : PySem.W.keepIn K (.ref f_law_digits) = true)
    (a_law_held : PySem.W.nsIn K mainGlobals "_law_held" = some (some (.ref f_law_held))) (l_law_held : K.lookup f_law_held = some ⟨oc_law_held, od_law_held, .func (PySem.W.fnOf "_law_held" "_law_held" (defArgs s_law_held) (defBody s_law_held) (defScope s_law_held) .none kV_law_held dc_law_held pm_law_held an_law_held cd_law_held ct_law_held), sl_law_held⟩) (c_law_held : PySem.W.codeIn K cd_law_held "_law_held" = true) (k_law_held : PySem.W.keepIn K (.ref f_law_held) = true)
    (a_law_small_edge : PySem.W.nsIn K mainGlobals "_law_small_edge" = some (some (.ref f_law_small_edge))) (l_law_small_edge : K.lookup f_law_small_edge = some ⟨oc_law_small_edge, od_law_small_edge, .func (PySem.W.fnOf "_law_small_edge" "_law_small_edge" (defArgs s_law_small_edge) (defBody s_law_small_edge) (defScope s_law_small_edge) .none kV_law_small_edge dc_law_small_edge pm_law_small_edge an_law_small_edge cd_law_small_edge ct_law_small_edge), sl_law_small_edge⟩) (c_law_small_edge : PySem.W.codeIn K cd_law_small_edge "_law_small_edge" = true) (k_law_small_edge : PySem.W.keepIn K (.ref f_law_small_edge) = true)
    (a_law_wide_edges : PySem.W.nsIn K mainGlobals "_law_wide_edges" = some (some (.ref f_law_wide_edges))) (l_law_wide_edges : K.lookup f_law_wide_edges = some ⟨oc_law_wide_edges, od_law_wide_edges, .func (PySem.W.fnOf "_law_wide_edges" "_law_wide_edges" (defArgs s_law_wide_edges) (defBody s_law_wide_edges) (defScope s_law_wide_edges) .none kV_law_wide_edges dc_law_wide_edges pm_law_wide_edges an_law_wide_edges cd_law_wide_edges ct_law_wide_edges), sl_law_wide_edges⟩) (c_law_wide_edges : PySem.W.codeIn K cd_law_wide_edges "_law_wide_edges" = true) (k_law_wide_edges : PySem.W.keepIn K (.ref f_law_wide_edges) = true)
    (a_law_net : PySem.W.nsIn K mainGlobals "_law_net" = some (some (.ref f_law_net))) (l_law_net : K.lookup f_law_net = some ⟨oc_law_net, od_law_net, .func (PySem.W.fnOf "_law_net" "_law_net" (defArgs s_law_net) (defBody s_law_net) (defScope s_law_net) .none kV_law_net dc_law_net pm_law_net an_law_net cd_law_net ct_law_net), sl_law_net⟩) (c_law_net : PySem.W.codeIn K cd_law_net "_law_net" = true) (k_law_net : PySem.W.keepIn K (.ref f_law_net) = true)
    (a_law_form : PySem.W.nsIn K mainGlobals "_law_form" = some (some (.ref f_law_form))) (l_law_form : K.lookup f_law_form = some ⟨oc_law_form, od_law_form, .func (PySem.W.fnOf "_law_form" "_law_form" (defArgs s_law_form) (defBody s_law_form) (defScope s_law_form) .none kV_law_form dc_law_form pm_law_form an_law_form cd_law_form ct_law_form), sl_law_form⟩) (c_law_form : PySem.W.codeIn K cd_law_form "_law_form" = true) (k_law_form : PySem.W.keepIn K (.ref f_law_form) = true)
    (a_law_drawn_row : PySem.W.nsIn K mainGlobals "_law_drawn_row" = some (some (.ref f_law_drawn_row))) (l_law_drawn_row : K.lookup f_law_drawn_row = some ⟨oc_law_drawn_row, od_law_drawn_row, .func (PySem.W.fnOf "_law_drawn_row" "_law_drawn_row" (defArgs s_law_drawn_row) (defBody s_law_drawn_row) (defScope s_law_drawn_row) .none kV_law_drawn_row dc_law_drawn_row pm_law_drawn_row an_law_drawn_row cd_law_drawn_row ct_law_drawn_row), sl_law_drawn_row⟩) (c_law_drawn_row : PySem.W.codeIn K cd_law_drawn_row "_law_drawn_row" = true) (k_law_drawn_row : PySem.W.keepIn K (.ref f_law_drawn_row) = true)
    (a_law_used : PySem.W.nsIn K mainGlobals "_law_used" = some (some (.ref f_law_used))) (l_law_used : K.lookup f_law_used = some ⟨oc_law_used, od_law_used, .func (PySem.W.fnOf "_law_used" "_law_used" (defArgs s_law_used) (defBody s_law_used) (defScope s_law_used) .none kV_law_used dc_law_used pm_law_used an_law_used cd_law_used ct_law_used), sl_law_used⟩) (c_law_used : PySem.W.codeIn K cd_law_used "_law_used" = true) (k_law_used : PySem.W.keepIn K (.ref f_law_used) = true)
    (a_law_packing : PySem.W.nsIn K mainGlobals "_law_packing" = some (some (.ref f_law_packing))) (l_law_packing : K.lookup f_law_packing = some ⟨oc_law_packing, od_law_packing, .func (PySem.W.fnOf "_law_packing" "_law_packing" (defArgs s_law_packing) (defBody s_law_packing) (defScope s_law_packing) .none kV_law_packing dc_law_packing pm_law_packing an_law_packing cd_law_packing ct_law_packing), sl_law_packing⟩) (c_law_packing : PySem.W.codeIn K cd_law_packing "_law_packing" = true) (k_law_packing : PySem.W.keepIn K (.ref f_law_packing) = true)
    (a_law_paper : PySem.W.nsIn K mainGlobals "_law_paper" = some (some (.ref f_law_paper))) (l_law_paper : K.lookup f_law_paper = some ⟨oc_law_paper, od_law_paper, .func (PySem.W.fnOf "_law_paper" "_law_paper" (defArgs s_law_paper) (defBody s_law_paper) (defScope s_law_paper) .none kV_law_paper dc_law_paper pm_law_paper an_law_paper cd_law_paper ct_law_paper), sl_law_paper⟩) (c_law_paper : PySem.W.codeIn K cd_law_paper "_law_paper" = true) (k_law_paper : PySem.W.keepIn K (.ref f_law_paper) = true)
    (a_law_asked : PySem.W.nsIn K mainGlobals "_law_asked" = some (some (.ref f_law_asked))) (l_law_asked : K.lookup f_law_asked = some ⟨oc_law_asked, od_law_asked, .func (PySem.W.fnOf "_law_asked" "_law_asked" (defArgs s_law_asked) (defBody s_law_asked) (defScope s_law_asked) .none kV_law_asked dc_law_asked pm_law_asked an_law_asked cd_law_asked ct_law_asked), sl_law_asked⟩) (c_law_asked : PySem.W.codeIn K cd_law_asked "_law_asked" = true) (k_law_asked : PySem.W.keepIn K (.ref f_law_asked) = true)
    (a_law_with : PySem.W.nsIn K mainGlobals "_law_with" = some (some (.ref f_law_with))) (l_law_with : K.lookup f_law_with = some ⟨oc_law_with, od_law_with, .func (PySem.W.fnOf "_law_with" "_law_with" (defArgs s_law_with) (defBody s_law_with) (defScope s_law_with) .none kV_law_with dc_law_with pm_law_with an_law_with cd_law_with ct_law_with), sl_law_with⟩) (c_law_with : PySem.W.codeIn K cd_law_with "_law_with" = true) (k_law_with : PySem.W.keepIn K (.ref f_law_with) = true)
    (a_law_cost : PySem.W.nsIn K mainGlobals "_law_cost" = some (some (.ref f_law_cost))) (l_law_cost : K.lookup f_law_cost = some ⟨oc_law_cost, od_law_cost, .func (PySem.W.fnOf "_law_cost" "_law_cost" (defArgs s_law_cost) (defBody s_law_cost) (defScope s_law_cost) .none kV_law_cost dc_law_cost pm_law_cost an_law_cost cd_law_cost ct_law_cost), sl_law_cost⟩) (c_law_cost : PySem.W.codeIn K cd_law_cost "_law_cost" = true) (k_law_cost : PySem.W.keepIn K (.ref f_law_cost) = true)
    (a_law_about_costs : PySem.W.nsIn K mainGlobals "_law_about_costs" = some (some (.ref f_law_about_costs))) (l_law_about_costs : K.lookup f_law_about_costs = some ⟨oc_law_about_costs, od_law_about_costs, .func (PySem.W.fnOf "_law_about_costs" "_law_about_costs" (defArgs s_law_about_costs) (defBody s_law_about_costs) (defScope s_law_about_costs) .none kV_law_about_costs dc_law_about_costs pm_law_about_costs an_law_about_costs cd_law_about_costs ct_law_about_costs), sl_law_about_costs⟩) (c_law_about_costs : PySem.W.codeIn K cd_law_about_costs "_law_about_costs" = true) (k_law_about_costs : PySem.W.keepIn K (.ref f_law_about_costs) = true)
    (a_law_about_rows : PySem.W.nsIn K mainGlobals "_law_about_rows" = some (some (.ref f_law_about_rows))) (l_law_about_rows : K.lookup f_law_about_rows = some ⟨oc_law_about_rows, od_law_about_rows, .func (PySem.W.fnOf "_law_about_rows" "_law_about_rows" (defArgs s_law_about_rows) (defBody s_law_about_rows) (defScope s_law_about_rows) .none kV_law_about_rows dc_law_about_rows pm_law_about_rows an_law_about_rows cd_law_about_rows ct_law_about_rows), sl_law_about_rows⟩) (c_law_about_rows : PySem.W.codeIn K cd_law_about_rows "_law_about_rows" = true) (k_law_about_rows : PySem.W.keepIn K (.ref f_law_about_rows) = true)
    (a_law_about_few : PySem.W.nsIn K mainGlobals "_law_about_few" = some (some (.ref f_law_about_few))) (l_law_about_few : K.lookup f_law_about_few = some ⟨oc_law_about_few, od_law_about_few, .func (PySem.W.fnOf "_law_about_few" "_law_about_few" (defArgs s_law_about_few) (defBody s_law_about_few) (defScope s_law_about_few) .none kV_law_about_few dc_law_about_few pm_law_about_few an_law_about_few cd_law_about_few ct_law_about_few), sl_law_about_few⟩) (c_law_about_few : PySem.W.codeIn K cd_law_about_few "_law_about_few" = true) (k_law_about_few : PySem.W.keepIn K (.ref f_law_about_few) = true)
    (a_law : PySem.W.nsIn K mainGlobals "law" = some (some (.ref f_law))) (l_law : K.lookup f_law = some ⟨oc_law, od_law, .func (PySem.W.fnOf "law" "law" (defArgs s_law) (defBody s_law) (defScope s_law) .none kV_law dc_law pm_law an_law cd_law ct_law), sl_law⟩) (c_law : PySem.W.codeIn K cd_law "law" = true) (k_law : PySem.W.keepIn K (.ref f_law) = true)
    (z_len : PySem.W.nsIn K mainGlobals "len" = some none) (z_int : PySem.W.nsIn K mainGlobals "int" = some none) (z_abs : PySem.W.nsIn K mainGlobals "abs" = some none) (z_sum : PySem.W.nsIn K mainGlobals "sum" = some none) (z_min : PySem.W.nsIn K mainGlobals "min" = some none) (z_max : PySem.W.nsIn K mainGlobals "max" = some none) (z_list : PySem.W.nsIn K mainGlobals "list" = some none) (z_tuple : PySem.W.nsIn K mainGlobals "tuple" = some none) (z_sorted : PySem.W.nsIn K mainGlobals "sorted" = some none) (z_isinstance : PySem.W.nsIn K mainGlobals "isinstance" = some none) (z_range : PySem.W.nsIn K mainGlobals "range" = some none) (z_set : PySem.W.nsIn K mainGlobals "set" = some none) (z_bool : PySem.W.nsIn K mainGlobals "bool" = some none) (z_str : PySem.W.nsIn K mainGlobals "str" = some none) (z_dict : PySem.W.nsIn K mainGlobals "dict" = some none) (z_enumerate : PySem.W.nsIn K mainGlobals "enumerate" = some none) :
    ∃ fd : FuncData, (∀ (s : Shared) (v : Value), BindsTo s fd ⟨[v], []⟩ [("script", v)]) ∧ ∀ base : Heap, K.In base → base.Ns mainGlobals mg → FnOk l.prog w K mg base CX0 4 fa fd ["script"] (spF K (spS sp_law.s)) := by
  have e := hfa.symm.trans (PySem.W.mg_of X G a_law)
  cases e
  let T : Txt K mg := {
    len := PySem.W.mg_none_of X G z_len,
    int := PySem.W.mg_none_of X G z_int,
    abs := PySem.W.mg_none_of X G z_abs,
    sum := PySem.W.mg_none_of X G z_sum,
    min := PySem.W.mg_none_of X G z_min,
    max := PySem.W.mg_none_of X G z_max,
    list := PySem.W.mg_none_of X G z_list,
    tuple := PySem.W.mg_none_of X G z_tuple,
    sorted := PySem.W.mg_none_of X G z_sorted,
    isinstance := PySem.W.mg_none_of X G z_isinstance,
    range := PySem.W.mg_none_of X G z_range,
    set := PySem.W.mg_none_of X G z_set,
    bool := PySem.W.mg_none_of X G z_bool,
    str := PySem.W.mg_none_of X G z_str,
    dict := PySem.W.mg_none_of X G z_dict,
    enumerate := PySem.W.mg_none_of X G z_enumerate,
    f_is_row := f_is_row,
    d_is_row := PySem.W.fnOf "is_row" "is_row" (defArgs s_is_row) (defBody s_is_row) (defScope s_is_row) .none kV_is_row dc_is_row pm_is_row an_is_row cd_is_row ct_is_row,
    F_is_row := fun_mk (st := s_is_row) l_is_row c_is_row k_is_row,
    m_is_row := PySem.W.mg_of X G a_is_row,
    b_is_row := (fun_mk (st := s_is_row) l_is_row c_is_row k_is_row).binds (ps := ["nodes", "edges", "row"]) fun _ _ _ _ _ _ us hl => match us, hl with | [_, _, _], _ => rfl,
    f_has_double := f_has_double,
    d_has_double := PySem.W.fnOf "has_double" "has_double" (defArgs s_has_double) (defBody s_has_double) (defScope s_has_double) .none kV_has_double dc_has_double pm_has_double an_has_double cd_has_double ct_has_double,
    F_has_double := fun_mk (st := s_has_double) l_has_double c_has_double k_has_double,
    m_has_double := PySem.W.mg_of X G a_has_double,
    b_has_double := (fun_mk (st := s_has_double) l_has_double c_has_double k_has_double).binds (ps := ["items"]) fun _ _ _ _ _ _ us hl => match us, hl with | [_], _ => rfl,
    f_is_packing := f_is_packing,
    d_is_packing := PySem.W.fnOf "is_packing" "is_packing" (defArgs s_is_packing) (defBody s_is_packing) (defScope s_is_packing) .none kV_is_packing dc_is_packing pm_is_packing an_is_packing cd_is_packing ct_is_packing,
    F_is_packing := fun_mk (st := s_is_packing) l_is_packing c_is_packing k_is_packing,
    m_is_packing := PySem.W.mg_of X G a_is_packing,
    b_is_packing := (fun_mk (st := s_is_packing) l_is_packing c_is_packing k_is_packing).binds (ps := ["nodes", "edges", "costs", "zeros", "ones", "packing"]) fun _ _ _ _ _ _ us hl => match us, hl with | [_, _, _, _, _, _], _ => rfl,
    f_law_cell := f_law_cell,
    d_law_cell := PySem.W.fnOf "_law_cell" "_law_cell" (defArgs s_law_cell) (defBody s_law_cell) (defScope s_law_cell) .none kV_law_cell dc_law_cell pm_law_cell an_law_cell cd_law_cell ct_law_cell,
    F_law_cell := fun_mk (st := s_law_cell) l_law_cell c_law_cell k_law_cell,
    m_law_cell := PySem.W.mg_of X G a_law_cell,
    b_law_cell := (fun_mk (st := s_law_cell) l_law_cell c_law_cell k_law_cell).binds (ps := ["script", "k"]) fun _ _ _ _ _ _ us hl => match us, hl with | [_, _], _ => rfl,
    f_law_digits := f_law_digits,
    d_law_digits := PySem.W.fnOf "_law_digits" "_law_digits" (defArgs s_law_digits) (defBody s_law_digits) (defScope s_law_digits) .none kV_law_digits dc_law_digits pm_law_digits an_law_digits cd_law_digits ct_law_digits,
    F_law_digits := fun_mk (st := s_law_digits) l_law_digits c_law_digits k_law_digits,
    m_law_digits := PySem.W.mg_of X G a_law_digits,
    b_law_digits := (fun_mk (st := s_law_digits) l_law_digits c_law_digits k_law_digits).binds (ps := ["cell", "sizes"]) fun _ _ _ _ _ _ us hl => match us, hl with | [_, _], _ => rfl,
    f_law_held := f_law_held,
    d_law_held := PySem.W.fnOf "_law_held" "_law_held" (defArgs s_law_held) (defBody s_law_held) (defScope s_law_held) .none kV_law_held dc_law_held pm_law_held an_law_held cd_law_held ct_law_held,
    F_law_held := fun_mk (st := s_law_held) l_law_held c_law_held k_law_held,
    m_law_held := PySem.W.mg_of X G a_law_held,
    b_law_held := (fun_mk (st := s_law_held) l_law_held c_law_held k_law_held).binds (ps := ["nodes", "chosen"]) fun _ _ _ _ _ _ us hl => match us, hl with | [_, _], _ => rfl,
    f_law_small_edge := f_law_small_edge,
    d_law_small_edge := PySem.W.fnOf "_law_small_edge" "_law_small_edge" (defArgs s_law_small_edge) (defBody s_law_small_edge) (defScope s_law_small_edge) .none kV_law_small_edge dc_law_small_edge pm_law_small_edge an_law_small_edge cd_law_small_edge ct_law_small_edge,
    F_law_small_edge := fun_mk (st := s_law_small_edge) l_law_small_edge c_law_small_edge k_law_small_edge,
    m_law_small_edge := PySem.W.mg_of X G a_law_small_edge,
    b_law_small_edge := (fun_mk (st := s_law_small_edge) l_law_small_edge c_law_small_edge k_law_small_edge).binds (ps := ["cell", "nodes", "edges", "loose"]) fun _ _ _ _ _ _ us hl => match us, hl with | [_, _, _, _], _ => rfl,
    f_law_wide_edges := f_law_wide_edges,
    d_law_wide_edges := PySem.W.fnOf "_law_wide_edges" "_law_wide_edges" (defArgs s_law_wide_edges) (defBody s_law_wide_edges) (defScope s_law_wide_edges) .none kV_law_wide_edges dc_law_wide_edges pm_law_wide_edges an_law_wide_edges cd_law_wide_edges ct_law_wide_edges,
    F_law_wide_edges := fun_mk (st := s_law_wide_edges) l_law_wide_edges c_law_wide_edges k_law_wide_edges,
    m_law_wide_edges := PySem.W.mg_of X G a_law_wide_edges,
    b_law_wide_edges := (fun_mk (st := s_law_wide_edges) l_law_wide_edges c_law_wide_edges k_law_wide_edges).binds (ps := ["cell", "nodes"]) fun _ _ _ _ _ _ us hl => match us, hl with | [_, _], _ => rfl,
    f_law_net := f_law_net,
    d_law_net := PySem.W.fnOf "_law_net" "_law_net" (defArgs s_law_net) (defBody s_law_net) (defScope s_law_net) .none kV_law_net dc_law_net pm_law_net an_law_net cd_law_net ct_law_net,
    F_law_net := fun_mk (st := s_law_net) l_law_net c_law_net k_law_net,
    m_law_net := PySem.W.mg_of X G a_law_net,
    b_law_net := (fun_mk (st := s_law_net) l_law_net c_law_net k_law_net).binds (ps := ["script", "at"]) fun _ _ _ _ _ _ us hl => match us, hl with | [_, _], _ => rfl,
    f_law_form := f_law_form,
    d_law_form := PySem.W.fnOf "_law_form" "_law_form" (defArgs s_law_form) (defBody s_law_form) (defScope s_law_form) .none kV_law_form dc_law_form pm_law_form an_law_form cd_law_form ct_law_form,
    F_law_form := fun_mk (st := s_law_form) l_law_form c_law_form k_law_form,
    m_law_form := PySem.W.mg_of X G a_law_form,
    b_law_form := (fun_mk (st := s_law_form) l_law_form c_law_form k_law_form).binds (ps := ["rows", "form"]) fun _ _ _ _ _ _ us hl => match us, hl with | [_, _], _ => rfl,
    f_law_drawn_row := f_law_drawn_row,
    d_law_drawn_row := PySem.W.fnOf "_law_drawn_row" "_law_drawn_row" (defArgs s_law_drawn_row) (defBody s_law_drawn_row) (defScope s_law_drawn_row) .none kV_law_drawn_row dc_law_drawn_row pm_law_drawn_row an_law_drawn_row cd_law_drawn_row ct_law_drawn_row,
    F_law_drawn_row := fun_mk (st := s_law_drawn_row) l_law_drawn_row c_law_drawn_row k_law_drawn_row,
    m_law_drawn_row := PySem.W.mg_of X G a_law_drawn_row,
    b_law_drawn_row := (fun_mk (st := s_law_drawn_row) l_law_drawn_row c_law_drawn_row k_law_drawn_row).binds (ps := ["nodes", "edges", "cell"]) fun _ _ _ _ _ _ us hl => match us, hl with | [_, _, _], _ => rfl,
    f_law_used := f_law_used,
    d_law_used := PySem.W.fnOf "_law_used" "_law_used" (defArgs s_law_used) (defBody s_law_used) (defScope s_law_used) .none kV_law_used dc_law_used pm_law_used an_law_used cd_law_used ct_law_used,
    F_law_used := fun_mk (st := s_law_used) l_law_used c_law_used k_law_used,
    m_law_used := PySem.W.mg_of X G a_law_used,
    b_law_used := (fun_mk (st := s_law_used) l_law_used c_law_used k_law_used).binds (ps := ["edges", "packing"]) fun _ _ _ _ _ _ us hl => match us, hl with | [_, _], _ => rfl,
    f_law_packing := f_law_packing,
    d_law_packing := PySem.W.fnOf "_law_packing" "_law_packing" (defArgs s_law_packing) (defBody s_law_packing) (defScope s_law_packing) .none kV_law_packing dc_law_packing pm_law_packing an_law_packing cd_law_packing ct_law_packing,
    F_law_packing := fun_mk (st := s_law_packing) l_law_packing c_law_packing k_law_packing,
    m_law_packing := PySem.W.mg_of X G a_law_packing,
    b_law_packing := (fun_mk (st := s_law_packing) l_law_packing c_law_packing k_law_packing).binds (ps := ["question"]) fun _ _ _ _ _ _ us hl => match us, hl with | [_], _ => rfl,
    f_law_paper := f_law_paper,
    d_law_paper := PySem.W.fnOf "_law_paper" "_law_paper" (defArgs s_law_paper) (defBody s_law_paper) (defScope s_law_paper) .none kV_law_paper dc_law_paper pm_law_paper an_law_paper cd_law_paper ct_law_paper,
    F_law_paper := fun_mk (st := s_law_paper) l_law_paper c_law_paper k_law_paper,
    m_law_paper := PySem.W.mg_of X G a_law_paper,
    b_law_paper := (fun_mk (st := s_law_paper) l_law_paper c_law_paper k_law_paper).binds (ps := ["packing", "form"]) fun _ _ _ _ _ _ us hl => match us, hl with | [_, _], _ => rfl,
    f_law_asked := f_law_asked,
    d_law_asked := PySem.W.fnOf "_law_asked" "_law_asked" (defArgs s_law_asked) (defBody s_law_asked) (defScope s_law_asked) .none kV_law_asked dc_law_asked pm_law_asked an_law_asked cd_law_asked ct_law_asked,
    F_law_asked := fun_mk (st := s_law_asked) l_law_asked c_law_asked k_law_asked,
    m_law_asked := PySem.W.mg_of X G a_law_asked,
    b_law_asked := (fun_mk (st := s_law_asked) l_law_asked c_law_asked k_law_asked).binds (ps := ["question", "form"]) fun _ _ _ _ _ _ us hl => match us, hl with | [_, _], _ => rfl,
    f_law_with := f_law_with,
    d_law_with := PySem.W.fnOf "_law_with" "_law_with" (defArgs s_law_with) (defBody s_law_with) (defScope s_law_with) .none kV_law_with dc_law_with pm_law_with an_law_with cd_law_with ct_law_with,
    F_law_with := fun_mk (st := s_law_with) l_law_with c_law_with k_law_with,
    m_law_with := PySem.W.mg_of X G a_law_with,
    b_law_with := (fun_mk (st := s_law_with) l_law_with c_law_with k_law_with).binds (ps := ["packing", "at", "amount", "places", "ties"]) fun _ _ _ _ _ _ us hl => match us, hl with | [_, _, _, _, _], _ => rfl,
    f_law_cost := f_law_cost,
    d_law_cost := PySem.W.fnOf "_law_cost" "_law_cost" (defArgs s_law_cost) (defBody s_law_cost) (defScope s_law_cost) .none kV_law_cost dc_law_cost pm_law_cost an_law_cost cd_law_cost ct_law_cost,
    F_law_cost := fun_mk (st := s_law_cost) l_law_cost c_law_cost k_law_cost,
    m_law_cost := PySem.W.mg_of X G a_law_cost,
    b_law_cost := (fun_mk (st := s_law_cost) l_law_cost c_law_cost k_law_cost).binds (ps := ["costs", "number", "cost"]) fun _ _ _ _ _ _ us hl => match us, hl with | [_, _, _], _ => rfl,
    f_law_about_costs := f_law_about_costs,
    d_law_about_costs := PySem.W.fnOf "_law_about_costs" "_law_about_costs" (defArgs s_law_about_costs) (defBody s_law_about_costs) (defScope s_law_about_costs) .none kV_law_about_costs dc_law_about_costs pm_law_about_costs an_law_about_costs cd_law_about_costs ct_law_about_costs,
    F_law_about_costs := fun_mk (st := s_law_about_costs) l_law_about_costs c_law_about_costs k_law_about_costs,
    m_law_about_costs := PySem.W.mg_of X G a_law_about_costs,
    b_law_about_costs := (fun_mk (st := s_law_about_costs) l_law_about_costs c_law_about_costs k_law_about_costs).binds (ps := ["base", "at", "k"]) fun _ _ _ _ _ _ us hl => match us, hl with | [_, _, _], _ => rfl,
    f_law_about_rows := f_law_about_rows,
    d_law_about_rows := PySem.W.fnOf "_law_about_rows" "_law_about_rows" (defArgs s_law_about_rows) (defBody s_law_about_rows) (defScope s_law_about_rows) .none kV_law_about_rows dc_law_about_rows pm_law_about_rows an_law_about_rows cd_law_about_rows ct_law_about_rows,
    F_law_about_rows := fun_mk (st := s_law_about_rows) l_law_about_rows c_law_about_rows k_law_about_rows,
    m_law_about_rows := PySem.W.mg_of X G a_law_about_rows,
    b_law_about_rows := (fun_mk (st := s_law_about_rows) l_law_about_rows c_law_about_rows k_law_about_rows).binds (ps := ["base", "at", "k", "other"]) fun _ _ _ _ _ _ us hl => match us, hl with | [_, _, _, _], _ => rfl,
    f_law_about_few := f_law_about_few,
    d_law_about_few := PySem.W.fnOf "_law_about_few" "_law_about_few" (defArgs s_law_about_few) (defBody s_law_about_few) (defScope s_law_about_few) .none kV_law_about_few dc_law_about_few pm_law_about_few an_law_about_few cd_law_about_few ct_law_about_few,
    F_law_about_few := fun_mk (st := s_law_about_few) l_law_about_few c_law_about_few k_law_about_few,
    m_law_about_few := PySem.W.mg_of X G a_law_about_few,
    b_law_about_few := (fun_mk (st := s_law_about_few) l_law_about_few c_law_about_few k_law_about_few).binds (ps := ["base", "one", "two", "three"]) fun _ _ _ _ _ _ us hl => match us, hl with | [_, _, _, _], _ => rfl,
    f_law := fa,
    d_law := PySem.W.fnOf "law" "law" (defArgs s_law) (defBody s_law) (defScope s_law) .none kV_law dc_law pm_law an_law cd_law ct_law,
    F_law := fun_mk (st := s_law) l_law c_law k_law,
    m_law := PySem.W.mg_of X G a_law,
    b_law := (fun_mk (st := s_law) l_law c_law k_law).binds (ps := ["script"]) fun _ _ _ _ _ _ us hl => match us, hl with | [_], _ => rfl }
  exact ⟨PySem.W.fnOf "law" "law" (defArgs s_law) (defBody s_law) (defScope s_law) .none kV_law dc_law pm_law an_law cd_law ct_law, fun s v => .of_eq rfl, fun base _ _ => ok_law (P := l.prog) (w := w) (base := base) T⟩
theorem law_sp {K : PySem.W.Frag} {H : Hp} {a : Addr} {ns : List Int} (hl : ns.length ≤ 63) (hS : SqL K H a (ns.map V.int)) : spF K (spS sp_law.s) [.ref a] H (fun v _ => v = .bl true) fun _ _ _ => False := by
  have rp : RepL K H [.ref a] [.node .ro (ns.map .int)] := .cons (.node (sh := .ro) hS (by rw [List.length_map]; exact Nat.le_trans hl (by decide)) (repL_ints ns)) .nil
  refine ⟨H, H, [.s (.node .ro (ns.map .int))], ⟨.refl _, .refl _, [], args_sh rp⟩, rfl, ns, ⟨_, rfl, rfl, hl⟩, fun t outs e S' B' v H' ev sr => ?_⟩
  have e : t = .s (.bl true) := e
  subst e
  have r := sr.scal
  cases r
  rfl
theorem walk {l : PySem.W.OpenLaw} {q : Program} {loose : List Str} {XP : (Str → Option Value) → Heap → Prop} {YP : World → Heap → Prop} {d : DefRec} {K : Params → PySem.W.Frag} (hn : l.most = some 63) (hdf : d.params.defaults = [])
    (hY : ∀ (w : World) (h : Heap), YP w h → (K w.params).In h)
    (F : ∀ (w : World) (mg : Str → Option Value) (fa : Addr) (h : Heap), (K w.params).In h → h.Ns mainGlobals mg → mg d.name = some (.ref fa) →
      ∃ fd : FuncData, (∀ (s : Shared) (u : Value), BindsTo s fd ⟨[u], []⟩ [("script", u)]) ∧ ∀ base : Heap, (K w.params).In base → base.Ns mainGlobals mg → FnOk l.prog w (K w.params) mg base CX0 4 fa fd ["script"] (spF (K w.params) (spS sp_law.s))) :
    PySem.W.WalkO q loose XP YP l.row.toRowW d [] (fun f vs => PySem.call f vs) :=
  L2.walk_of (n := 63) (k := 4) (x := "script") (CX := fun _ => CX0) (sp := fun w => spF (K w.params) (spS sp_law.s)) hn (by decide) hdf ⟨rfl, by decide, by decide⟩ hY F (fun _ _ a ns hl _ hS => law_sp hl hS) fun _ _ _ _ _ z => z
end K05
open PySem PySem.W PyProof.Rows in
set_option maxRecDepth 100000 in
set_option maxHeartbeats 0 in
theorem PySem.Challenge.cw_whywait_k05_packing_judge_holds : PySem.Challenge.rw_whywait_k05_packing_judge.Holds := by
  w_on; o_law; k_head; (case hw => w_witness2)
  k_fill
  refine K05.walk (l := PySem.Challenge.rw_whywait_k05_packing_judge) rfl rfl (fun w h Y => PySem.W.kIn_of Y) ?F
  case F =>
    intro w mg fa h KX G hmg
    refine' K05.all_mk KX G hmg ?a_is_row ?l_is_row ?c_is_row ?k_is_row ?a_has_double ?l_has_double ?c_has_double ?k_has_double ?a_is_packing ?l_is_packing ?c_is_packing ?k_is_packing ?a_law_cell ?l_law_cell ?c_law_cell ?k_law_cell ?a_law_digits ?l_law_digits ?c_law_digits ?k_law_digits ?a_law_held ?l_law_held ?c_law_held ?k_law_held ?a_law_small_edge ?l_law_small_edge ?c_law_small_edge ?k_law_small_edge ?a_law_wide_edges ?l_law_wide_edges ?c_law_wide_edges ?k_law_wide_edges ?a_law_net ?l_law_net ?c_law_net ?k_law_net ?a_law_form ?l_law_form ?c_law_form ?k_law_form ?a_law_drawn_row ?l_law_drawn_row ?c_law_drawn_row ?k_law_drawn_row ?a_law_used ?l_law_used ?c_law_used ?k_law_used ?a_law_packing ?l_law_packing ?c_law_packing ?k_law_packing ?a_law_paper ?l_law_paper ?c_law_paper ?k_law_paper ?a_law_asked ?l_law_asked ?c_law_asked ?k_law_asked ?a_law_with ?l_law_with ?c_law_with ?k_law_with ?a_law_cost ?l_law_cost ?c_law_cost ?k_law_cost ?a_law_about_costs ?l_law_about_costs ?c_law_about_costs ?k_law_about_costs ?a_law_about_rows ?l_law_about_rows ?c_law_about_rows ?k_law_about_rows ?a_law_about_few ?l_law_about_few ?c_law_about_few ?k_law_about_few ?a_law ?l_law ?c_law ?k_law ?z_len ?z_int ?z_abs ?z_sum ?z_min ?z_max ?z_list ?z_tuple ?z_sorted ?z_isinstance ?z_range ?z_set ?z_bool ?z_str ?z_dict ?z_enumerate
    (case a_is_row => k_is)
    (case l_is_row => k_is)
    (case c_is_row => k_is)
    (case k_is_row => k_is)
    (case a_has_double => k_is)
    (case l_has_double => k_is)
    (case c_has_double => k_is)
    (case k_has_double => k_is)
    (case a_is_packing => k_is)
    (case l_is_packing => k_is)
    (case c_is_packing => k_is)
    (case k_is_packing => k_is)
    (case a_law_cell => k_is)
    (case l_law_cell => k_is)
    (case c_law_cell => k_is)
    (case k_law_cell => k_is)
    (case a_law_digits => k_is)
    (case l_law_digits => k_is)
    (case c_law_digits => k_is)
    (case k_law_digits => k_is)
    (case a_law_held => k_is)
    (case l_law_held => k_is)
    (case c_law_held => k_is)
    (case k_law_held => k_is)
    (case a_law_small_edge => k_is)
    (case l_law_small_edge => k_is)
    (case c_law_small_edge => k_is)
    (case k_law_small_edge => k_is)
    (case a_law_wide_edges => k_is)
    (case l_law_wide_edges => k_is)
    (case c_law_wide_edges => k_is)
    (case k_law_wide_edges => k_is)
    (case a_law_net => k_is)
    (case l_law_net => k_is)
    (case c_law_net => k_is)
    (case k_law_net => k_is)
    (case a_law_form => k_is)
    (case l_law_form => k_is)
    (case c_law_form => k_is)
    (case k_law_form => k_is)
    (case a_law_drawn_row => k_is)
    (case l_law_drawn_row => k_is)
    (case c_law_drawn_row => k_is)
    (case k_law_drawn_row => k_is)
    (case a_law_used => k_is)
    (case l_law_used => k_is)
    (case c_law_used => k_is)
    (case k_law_used => k_is)
    (case a_law_packing => k_is)
    (case l_law_packing => k_is)
    (case c_law_packing => k_is)
    (case k_law_packing => k_is)
    (case a_law_paper => k_is)
    (case l_law_paper => k_is)
    (case c_law_paper => k_is)
    (case k_law_paper => k_is)
    (case a_law_asked => k_is)
    (case l_law_asked => k_is)
    (case c_law_asked => k_is)
    (case k_law_asked => k_is)
    (case a_law_with => k_is)
    (case l_law_with => k_is)
    (case c_law_with => k_is)
    (case k_law_with => k_is)
    (case a_law_cost => k_is)
    (case l_law_cost => k_is)
    (case c_law_cost => k_is)
    (case k_law_cost => k_is)
    (case a_law_about_costs => k_is)
    (case l_law_about_costs => k_is)
    (case c_law_about_costs => k_is)
    (case k_law_about_costs => k_is)
    (case a_law_about_rows => k_is)
    (case l_law_about_rows => k_is)
    (case c_law_about_rows => k_is)
    (case k_law_about_rows => k_is)
    (case a_law_about_few => k_is)
    (case l_law_about_few => k_is)
    (case c_law_about_few => k_is)
    (case k_law_about_few => k_is)
    (case a_law => k_is)
    (case l_law => k_is)
    (case c_law => k_is)
    (case k_law => k_is)
    (case z_len => k_is)
    (case z_int => k_is)
    (case z_abs => k_is)
    (case z_sum => k_is)
    (case z_min => k_is)
    (case z_max => k_is)
    (case z_list => k_is)
    (case z_tuple => k_is)
    (case z_sorted => k_is)
    (case z_isinstance => k_is)
    (case z_range => k_is)
    (case z_set => k_is)
    (case z_bool => k_is)
    (case z_str => k_is)
    (case z_dict => k_is)
    (case z_enumerate => k_is)
