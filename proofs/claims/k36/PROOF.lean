import PyProof.Rows.All
import Wide.All
import OpenK.AllK
import Wide.FinOn
import HandS.ForMost
import HandS.EndBits
import HandS.WideBits
import HandS.Conv
import HandS.Style
import HandS.TupAny
import HandS.NoneIn
import HandS.SortInts
import HandS.SortKw
import KE.SortKeyHeap
import PySem.Challenge.RW_meetlots_k36_whole_rules_and_greatest_lo
import KE.KStateDown
import Lean
import HandS.Defaults
import HandS.Head0
import HandS.Head1
import HandS.Head2
import HandS.HeadEnd
import HandS.HeadHook1
import HandS.HeadHook2
set_option Elab.async false
set_option linter.all false
set_option maxRecDepth 100000
set_option maxHeartbeats 4000000
set_option maxHeartbeats 1000000
namespace Mt
open PySem PySem.Spec PyProof.Rows L2

/-! ### heaps with hidden parts -/
noncomputable def hid (B : Addr → Prop) (H : Hp) : Hp := fun b => open Classical in if B b then none else H b
theorem hid_iff {B : Addr → Prop} {H : Hp} {b : Addr} {o : HO} : hid B H b = some o ↔ ¬ B b ∧ H b = some o := by
  unfold hid
  by_cases h : B b
  · rw [if_pos h]
    exact ⟨fun z => (nomatch z), fun z => absurd h z.1⟩
  · rw [if_neg h]
    exact ⟨fun z => ⟨h, z⟩, fun z => z.2⟩
theorem hid_le {B : Addr → Prop} {H : Hp} : Same (hid B H) H := fun _ _ h => (hid_iff.mp h).2
theorem same_seqT {K : PySem.W.Frag} {H H' : Hp} {a : Addr} {xs : List V} (e : Same H H') (h : SqT K H a xs) : SqT K H' a xs := by
  rcases h with (h | ⟨o, h⟩) | h
  · exact .inl (.inl (e _ _ h))
  · exact .inl (.inr ⟨o, e _ _ h⟩)
  · exact .inr h
/-- a tuple that is tracked -/
structure Tp (H : Hp) (a : Addr) (xs : List V) : Prop where of ::
  eq : H a = some (.tup xs)
theorem Tp.sq {K : PySem.W.Frag} {H : Hp} {a : Addr} {xs : List V} (h : Tp H a xs) : SqT K H a xs := .inl (.inl h.eq)
mutual
/-- data at a heap; its tuples are tracked -/
inductive Dp (K : PySem.W.Frag) (H : Hp) : V → PyData → Prop
  | non : Dp K H .non .none
  | bl (b : Bool) : Dp K H (.bl b) (.bool b)
  | int (i : Int) : Dp K H (.int i) (.int i)
  | str (x : Str) : Dp K H (.str x) (.str x)
  | lst {a : Addr} {xs : List V} {ds : List PyData} : SqL K H a xs → DpAll K H xs ds → Dp K H (.ref a) (.list ds)
  | tup {a : Addr} {xs : List V} {ds : List PyData} : Tp H a xs → DpAll K H xs ds → Dp K H (.ref a) (.tuple ds)
inductive DpAll (K : PySem.W.Frag) (H : Hp) : List V → List PyData → Prop
  | nil : DpAll K H [] []
  | cons {v : V} {vs : List V} {d : PyData} {ds : List PyData} : Dp K H v d → DpAll K H vs ds → DpAll K H (v :: vs) (d :: ds)
end
mutual
theorem dp_up {K : PySem.W.Frag} {H : Hp} : ∀ (d : PyData) {v : V}, Dp K H v d → L2.Dp K H v d
  | .none, _, h => by cases h; exact .non
  | .bool b, _, h => by cases h; exact .bl b
  | .int i, _, h => by cases h; exact .int i
  | .str x, _, h => by cases h; exact .str x
  | .list ds, _, h => by
    cases h with
    | lst h1 h2 => exact .lst h1 (dps_up ds h2)
  | .tuple ds, _, h => by
    cases h with
    | tup h1 h2 => exact .tup h1.sq (dps_up ds h2)
  | .dict _, _, h => by cases h
theorem dps_up {K : PySem.W.Frag} {H : Hp} : ∀ (ds : List PyData) {vs : List V}, DpAll K H vs ds → L2.DpAll K H vs ds
  | [], _, h => by cases h; exact .nil
  | d :: ds, _, h => by
    cases h with
    | cons h1 h2 => exact .cons (dp_up d h1) (dps_up ds h2)
end
theorem same_new {H : Hp} {p : Addr} {o : HO} (h : H p = none) : Same H (upd H p o) := fun b x e => by
  rw [upd_ne (ne_of_none e h)]
  exact e
mutual
theorem dp_mono {K : PySem.W.Frag} {H H' : Hp} (s : Same H H') : ∀ (d : PyData) {v : V}, Dp K H v d → Dp K H' v d
  | .none, _, h => by cases h; exact .non
  | .bool b, _, h => by cases h; exact .bl b
  | .int i, _, h => by cases h; exact .int i
  | .str x, _, h => by cases h; exact .str x
  | .list ds, _, h => by
    cases h with
    | lst h1 h2 => exact .lst (s.seq h1) (dps_mono s ds h2)
  | .tuple ds, _, h => by
    cases h with
    | tup h1 h2 => exact .tup (.of (s _ _ h1.eq)) (dps_mono s ds h2)
  | .dict _, _, h => by cases h
theorem dps_mono {K : PySem.W.Frag} {H H' : Hp} (s : Same H H') : ∀ (ds : List PyData) {vs : List V}, DpAll K H vs ds → DpAll K H' vs ds
  | [], _, h => by cases h; exact .nil
  | d :: ds, _, h => by
    cases h with
    | cons h1 h2 => exact .cons (dp_mono s d h1) (dps_mono s ds h2)
end
theorem dps_len {K : PySem.W.Frag} {H : Hp} : ∀ {vs : List V} {ds : List PyData}, DpAll K H vs ds → vs.length = ds.length
  | _, _, .nil => rfl
  | _, _, .cons _ t => congrArg (· + 1) (dps_len t)
theorem dps_get {K : PySem.W.Frag} {H : Hp} : ∀ {vs : List V} {ds : List PyData} {i : Nat} {d : PyData}, DpAll K H vs ds → ds[i]? = some d → ∃ v, vs[i]? = some v ∧ Dp K H v d
  | _, _, _, _, .nil, e => by simp at e
  | _, _, 0, _, .cons h _, e => by simp at e; subst e; exact ⟨_, rfl, h⟩
  | _, _, i + 1, d, .cons _ t, e => by
    obtain ⟨v, h1, h2⟩ := dps_get (i := i) (d := d) t (by simpa using e)
    exact ⟨v, by simpa using h1, h2⟩
theorem dps_getV {K : PySem.W.Frag} {H : Hp} : ∀ {vs : List V} {ds : List PyData} {i : Nat} {v : V}, DpAll K H vs ds → vs[i]? = some v → ∃ d, ds[i]? = some d ∧ Dp K H v d
  | _, _, _, _, .nil, e => by simp at e
  | _, _, 0, _, .cons h _, e => by simp at e; subst e; exact ⟨_, rfl, h⟩
  | _, _, i + 1, v, .cons _ t, e => by
    obtain ⟨d, h1, h2⟩ := dps_getV (i := i) (v := v) t (by simpa using e)
    exact ⟨d, by simpa using h1, h2⟩
theorem dps_app {K : PySem.W.Frag} {H : Hp} : ∀ {vs ws : List V} {ds es : List PyData}, DpAll K H vs ds → DpAll K H ws es → DpAll K H (vs ++ ws) (ds ++ es)
  | _, _, _, _, .nil, h => h
  | _, _, _, _, .cons a t, h => .cons a (dps_app t h)
theorem dps_one {K : PySem.W.Frag} {H : Hp} {v : V} {d : PyData} (h : Dp K H v d) : DpAll K H [v] [d] := .cons h .nil
theorem dps_ints {K : PySem.W.Frag} {H : Hp} : ∀ (ns : List Int), DpAll K H (ns.map V.int) (ns.map PyData.int)
  | [] => .nil
  | n :: r => .cons (.int n) (dps_ints r)
theorem dps_ints' {K : PySem.W.Frag} {H : Hp} : ∀ {vs : List V} {ns : List Int}, DpAll K H vs (ns.map PyData.int) → vs = ns.map V.int
  | [], [], _ => rfl
  | [], _ :: _, h => by cases h
  | _ :: _, [], h => by cases h
  | v :: vs, n :: ns, h => by
    cases h with
    | cons h1 h2 =>
      cases h1
      rw [dps_ints' h2] <;> rfl
theorem dps_bls' {K : PySem.W.Frag} {H : Hp} : ∀ {vs : List V} {ns : List Bool}, DpAll K H vs (ns.map PyData.bool) → vs = ns.map V.bl
  | [], [], _ => rfl
  | [], _ :: _, h => by cases h
  | _ :: _, [], h => by cases h
  | v :: vs, n :: ns, h => by
    cases h with
    | cons h1 h2 =>
      cases h1
      rw [dps_bls' h2] <;> rfl
theorem dps_cut {K : PySem.W.Frag} {H : Hp} : ∀ {vs : List V} {ds : List PyData} (n : Nat), DpAll K H vs ds → DpAll K H (vs.take n) (ds.take n)
  | _, _, 0, _ => .nil
  | _, _, _ + 1, .nil => .nil
  | _, _, n + 1, .cons a t => .cons a (dps_cut n t)
theorem dps_drop {K : PySem.W.Frag} {H : Hp} : ∀ {vs : List V} {ds : List PyData} (n : Nat), DpAll K H vs ds → DpAll K H (vs.drop n) (ds.drop n)
  | _, _, 0, h => h
  | _, _, _ + 1, .nil => .nil
  | _, _, n + 1, .cons _ t => dps_drop n t
theorem dps_rev {K : PySem.W.Frag} {H : Hp} : ∀ {vs : List V} {ds : List PyData}, DpAll K H vs ds → DpAll K H vs.reverse ds.reverse
  | _, _, .nil => .nil
  | _, _, .cons a t => by
    rw [List.reverse_cons, List.reverse_cons]
    exact dps_app (dps_rev t) (dps_one a)
theorem dp_int {K : PySem.W.Frag} {H : Hp} {v : V} {i : Int} (h : Dp K H v (.int i)) : v = .int i := by cases h; rfl
theorem dp_bool {K : PySem.W.Frag} {H : Hp} {v : V} {b : Bool} (h : Dp K H v (.bool b)) : v = .bl b := by cases h; rfl
theorem dp_list {K : PySem.W.Frag} {H : Hp} {v : V} {ds : List PyData} (h : Dp K H v (.list ds)) : ∃ a xs, v = .ref a ∧ SqL K H a xs ∧ DpAll K H xs ds := by
  cases h with
  | lst h1 h2 => exact ⟨_, _, rfl, h1, h2⟩
theorem dp_tuple {K : PySem.W.Frag} {H : Hp} {v : V} {ds : List PyData} (h : Dp K H v (.tuple ds)) : ∃ a xs, v = .ref a ∧ SqT K H a xs ∧ DpAll K H xs ds := by
  cases h with
  | tup h1 h2 => exact ⟨_, _, rfl, h1.sq, h2⟩
/-- a value that hangs on no heap -/
def scal : PyData → Bool
  | .none => true
  | .bool _ => true
  | .int _ => true
  | .str _ => true
  | _ => false
theorem dp_scal {K : PySem.W.Frag} {H H' : Hp} {v : V} {d : PyData} (s : scal d = true) (h : Dp K H v d) : Dp K H' v d := by
  cases h with
  | non => exact .non
  | bl b => exact .bl b
  | int i => exact .int i
  | str x => exact .str x
  | lst _ _ => cases s
  | tup _ _ => cases s
theorem dps_scal {K : PySem.W.Frag} {H H' : Hp} : ∀ {vs : List V} {ds : List PyData}, (∀ d ∈ ds, scal d = true) → DpAll K H vs ds → DpAll K H' vs ds
  | _, _, _, .nil => .nil
  | _, _, s, .cons a t => .cons (dp_scal (s _ List.mem_cons_self) a) (dps_scal (fun d hd => s d (List.mem_cons_of_mem _ hd)) t)

/-! ### the law's spring -/
/-- numbers of at most so many bits -/
abbrev big : Nat := 2000000
structure Spr (H : Hp) (a g kn : Addr) (n : Nat) : Prop where
  ne1 : a ≠ g
  ne2 : a ≠ kn
  ne3 : g ≠ kn
  ex : ∃ (gs ks : List Int) (sm m : Int), H a = some (.lst [.ref g, .ref kn, .int sm, .int m]) ∧ H g = some (.lst (gs.map V.int)) ∧ H kn = some (.lst (ks.map V.int)) ∧
    gs.length ≤ 64 ∧ (∀ z ∈ gs, 0 ≤ z ∧ z.natAbs < 2 ^ big) ∧ 0 < ks.length ∧ ks.length ≤ 100 ∧ (∀ z ∈ ks, 0 ≤ z ∧ z.natAbs < 2 ^ big) ∧ 0 ≤ sm ∧ sm.natAbs < 2 ^ (big + 100) ∧ 0 ≤ m ∧ m ≤ n
theorem Spr.mono {H : Hp} {a g kn : Addr} {n m : Nat} (h : Spr H a g kn n) (l : n ≤ m) : Spr H a g kn m := by
  obtain ⟨h1, h2, h3, gs, ks, sm, k, e1, e2, e3, l1, l2, l3, l4, l5, l6, l7, l8, l9⟩ := h
  exact ⟨h1, h2, h3, gs, ks, sm, k, e1, e2, e3, l1, l2, l3, l4, l5, l6, l7, l8, by omega⟩

/-! ### entries of a data environment -/
inductive Ent where
  /-- data that stands still -/
  | d (x : PyData)
  /-- a list that is this name's alone -/
  | l (xs : List PyData)
  /-- the spring at a, with at most n draws behind it -/
  | s (a : Addr) (n : Nat)
  /-- a dict by tuples of ints that stands still; one that is this name's alone -/
  | k (ps : List (List Int × PyData))
  | m (ps : List (List Int × PyData))
abbrev KvOk (K : PySem.W.Frag) (S : Hp) : List (List Key × V) → List (List Int × PyData) → Prop := Paired fun p q => p.1 = q.1.map Sum.inl ∧ Dp K S p.2 q.2
abbrev Gm := List (Option Ent)
def EntOk (K : PySem.W.Frag) (S H : Hp) (v : V) : Ent → List Addr → Prop
  | .d x, _ => Dp K S v x
  | .l xs, fp => ∃ a vs, v = .ref a ∧ fp = [a] ∧ H a = some (.lst vs) ∧ DpAll K S vs xs
  | .s a n, fp => v = .ref a ∧ ∃ g kn, fp = [a, g, kn] ∧ Spr H a g kn n
  | .k ps, _ => ∃ a kvs, v = .ref a ∧ S a = some (.dT kvs) ∧ KvOk K S kvs ps
  | .m ps, fp => ∃ a kvs, v = .ref a ∧ fp = [a] ∧ H a = some (.dT kvs) ∧ KvOk K S kvs ps
theorem EntOk.mono {K : PySem.W.Frag} {S S' H H' : Hp} {v : V} {e : Ent} {fp : List Addr} (h : EntOk K S H v e fp) (s : Same S S') (l : ∀ b ∈ fp, H' b = H b) : EntOk K S' H' v e fp := by
  cases e with
  | d x => exact dp_mono s x h
  | l xs =>
    obtain ⟨a, vs, e1, e2, e3, e4⟩ := h
    exact ⟨a, vs, e1, e2, by rw [l a (by rw [e2]; simp)]; exact e3, dps_mono s xs e4⟩
  | s a n =>
    obtain ⟨e1, g, kn, e2, h1, h2, h3, gs, ks, sm, k, q1, q2, q3, r⟩ := h
    refine ⟨e1, g, kn, e2, h1, h2, h3, gs, ks, sm, k, ?_, ?_, ?_, r⟩
    · rw [l a (by rw [e2]; simp)]; exact q1
    · rw [l g (by rw [e2]; simp)]; exact q2
    · rw [l kn (by rw [e2]; simp)]; exact q3
  | k ps =>
    obtain ⟨a, kvs, e1, e2, e3⟩ := h
    exact ⟨a, kvs, e1, s _ _ e2, Paired.mapP e3 fun _ _ z => ⟨z.1, dp_mono s _ z.2⟩⟩
  | m ps =>
    obtain ⟨a, kvs, e1, e2, e3, e4⟩ := h
    exact ⟨a, kvs, e1, e2, by rw [l a (by rw [e2]; simp)]; exact e3, Paired.mapP e4 fun _ _ z => ⟨z.1, dp_mono s _ z.2⟩⟩
/-- what is hidden: what the callers own, what the names own -/
def hd (B : Addr → Prop) (F : Nat → List Addr) : Addr → Prop := fun b => B b ∨ ∃ i, b ∈ F i
/-- no list, no spring of its own stands at the slot -/
def nOwn (Γ : Gm) (i : Nat) : Bool := match Γ[i]? with
  | some (some (.l _)) => false
  | some (some (.s _ _)) => false
  | some (some (.m _)) => false
  | _ => true
structure GOk (K : PySem.W.Frag) (B : Addr → Prop) (F : Nat → List Addr) (H : Hp) (σ : L2.St) (Γ : Gm) : Prop where
  ls : σ.length = Γ.length
  dj : ∀ i j b, b ∈ F i → b ∈ F j → i = j
  out : ∀ i b, b ∈ F i → ¬ B b
  own : ∀ b, hd B F b → H b ≠ none
  ent : ∀ (i : Nat) e, Γ[i]? = some (some e) → ∃ v, σ[i]? = some (some v) ∧ EntOk K (hid (hd B F) H) H v e (F i)
  nil : ∀ i, nOwn Γ i = true → F i = []
/-- what a step may do: to its own things all, to others nothing; what it owns behind it was its own or is new -/
structure Step (F : Nat → List Addr) (H : Hp) (F' : Nat → List Addr) (H' : Hp) : Prop where
  keep : ∀ b o, H b = some o → (∀ i, b ∉ F i) → H' b = some o
  new : ∀ i b, b ∈ F' i → (∃ j, b ∈ F j) ∨ H b = none
  trk : ∀ b, H b ≠ none → H' b ≠ none
theorem Step.refl {F : Nat → List Addr} {H : Hp} : Step F H F H := ⟨fun _ _ h _ => h, fun i b h => .inl ⟨i, h⟩, fun _ h => h⟩
theorem Step.trans {F F1 F2 : Nat → List Addr} {H H1 H2 : Hp} (a : Step F H F1 H1) (b : Step F1 H1 F2 H2) : Step F H F2 H2 := by
  refine ⟨fun c o h n => ?_, fun i c h => ?_, fun c h => b.trk c (a.trk c h)⟩
  · refine b.keep c o (a.keep c o h n) fun i hi => ?_
    rcases a.new i c hi with ⟨j, hj⟩ | e
    · exact n j hj
    · rw [h] at e; cases e
  · rcases b.new i c h with ⟨j, hj⟩ | e
    · exact a.new j c hj
    · refine .inr ?_
      cases q : H c with
      | none => rfl
      | some o => exact absurd e (a.trk c (by rw [q]; simp))
theorem Step.same {F : Nat → List Addr} {H H' : Hp} (s : Same H H') : Step F H F H' := ⟨fun b o h _ => s b o h, fun i b h => .inl ⟨i, h⟩, fun b h => by
  cases q : H b with
  | none => exact absurd q h
  | some o => rw [s b o q]; simp⟩
theorem Step.stab {B : Addr → Prop} {F F' : Nat → List Addr} {H H' : Hp} (s : Step F H F' H') : Same (hid (hd B F) H) (hid (hd B F') H') := fun b o h => by
  obtain ⟨n, e⟩ := hid_iff.mp h
  have nf : ∀ i, b ∉ F i := fun i hi => n (.inr ⟨i, hi⟩)
  refine hid_iff.mpr ⟨fun z => ?_, s.keep b o e nf⟩
  rcases z with z | ⟨i, z⟩
  · exact n (.inl z)
  · rcases s.new i b z with ⟨j, hj⟩ | q
    · exact nf j hj
    · rw [e] at q; cases q
section
variable {K : PySem.W.Frag} {B : Addr → Prop} {F : Nat → List Addr} {H H' : Hp} {σ : L2.St} {Γ : Gm}
/-- the heap grows -/
theorem GOk.grow (g : GOk K B F H σ Γ) (s : Same H H') : GOk K B F H' σ Γ := by
  have tr : ∀ b, hd B F b → H' b = H b := fun b h => by
    cases q : H b with
    | none => exact absurd q (g.own b h)
    | some o => exact s b o q
  refine ⟨g.ls, g.dj, g.out, fun b h => by rw [tr b h]; exact g.own b h, fun i e h => ?_, g.nil⟩
  obtain ⟨v, h1, h2⟩ := g.ent i e h
  exact ⟨v, h1, h2.mono (Step.stab (Step.same s)) fun b hb => tr b (.inr ⟨i, hb⟩)⟩
/-- data at a slot -/
theorem GOk.data (g : GOk K B F H σ Γ) {i : Nat} {x : PyData} (h : Γ[i]? = some (some (.d x))) : ∃ v, σ[i]? = some (some v) ∧ Dp K (hid (hd B F) H) v x := g.ent i _ h
def upF (F : Nat → List Addr) (i : Nat) (fp : List Addr) : Nat → List Addr := fun j => if j = i then fp else F j
theorem upF_same {i : Nat} {fp : List Addr} : upF F i fp i = fp := if_pos rfl
theorem upF_ne {i j : Nat} {fp : List Addr} (h : j ≠ i) : upF F i fp j = F j := if_neg h
theorem upF_mem {i j : Nat} {fp : List Addr} {b : Addr} (h : b ∈ upF F i fp j) : (j = i ∧ b ∈ fp) ∨ (j ≠ i ∧ b ∈ F j) := by
  by_cases e : j = i
  · subst e
    rw [upF_same] at h
    exact .inl ⟨rfl, h⟩
  · rw [upF_ne e] at h
    exact .inr ⟨e, h⟩
theorem step_drop {i : Nat} : Step F H (upF F i []) H := ⟨fun _ _ h _ => h, fun j b h => by
  rcases upF_mem h with ⟨_, z⟩ | ⟨_, z⟩
  · cases z
  · exact .inl ⟨j, z⟩, fun _ h => h⟩
theorem nOwn_ne {i j : Nat} {e : Option Ent} (h : i ≠ j) : nOwn (Γ.set i e) j = nOwn Γ j := by
  unfold nOwn
  rw [List.getElem?_set_ne h]
theorem upF_nil {i : Nat} (h : F i = []) : upF F i [] = F := funext fun j => by
  by_cases e : j = i
  · rw [e, upF_same, h]
  · rw [upF_ne e]
theorem GOk.nilF (g : GOk K B F H σ Γ) {e : Option Ent} {i j : Nat} (h : nOwn (Γ.set i e) j = true) (hj : i ≠ j) : upF F i [] j = [] := by
  rw [upF_ne (Ne.symm hj)]
  rw [nOwn_ne hj] at h
  exact g.nil j h
theorem GOk.nilS (g : GOk K B F H σ Γ) {e : Option Ent} {i : Nat} : ∀ j, nOwn (Γ.set i e) j = true → upF F i [] j = [] := fun j h => by
  by_cases hj : i = j
  · subst hj
    exact upF_same
  · exact g.nilF h hj
/-- a slot is set to data -/
theorem GOk.set (g : GOk K B F H σ Γ) (i : Nat) {v : V} {x : PyData} (h : Dp K (hid (hd B F) H) v x) : GOk K B (upF F i []) H (σ.set i (some v)) (Γ.set i (some (.d x))) := by
  have st : Same (hid (hd B F) H) (hid (hd B (upF F i [])) H) := Step.stab step_drop
  refine ⟨by rw [List.length_set, List.length_set, g.ls], fun j k b h1 h2 => ?_, fun j b h => ?_, fun b h => ?_, fun j e h1 => ?_, g.nilS⟩
  · rcases upF_mem h1 with ⟨_, z⟩ | ⟨_, z1⟩
    · cases z
    · rcases upF_mem h2 with ⟨_, z⟩ | ⟨_, z2⟩
      · cases z
      · exact g.dj j k b z1 z2
  · rcases upF_mem h with ⟨_, z⟩ | ⟨_, z⟩
    · cases z
    · exact g.out j b z
  · refine g.own b ?_
    rcases h with z | ⟨j, z⟩
    · exact .inl z
    · rcases upF_mem z with ⟨_, z⟩ | ⟨_, z⟩
      · cases z
      · exact .inr ⟨j, z⟩
  · by_cases e1 : i = j
    · subst e1
      have hl : i < Γ.length := by
        have := (List.getElem?_eq_some_iff.mp h1).1
        rw [List.length_set] at this
        exact this
      rw [List.getElem?_set_self hl] at h1
      cases h1
      exact ⟨v, List.getElem?_set_self (by rw [g.ls]; exact hl), dp_mono st _ h⟩
    · rw [List.getElem?_set_ne e1] at h1
      obtain ⟨u, h2, h3⟩ := g.ent j e h1
      refine ⟨u, by rw [List.getElem?_set_ne e1]; exact h2, ?_⟩
      rw [upF_ne (Ne.symm e1)]
      exact h3.mono st fun _ _ => rfl
/-- a slot is set to anything -/
theorem GOk.setV (g : GOk K B F H σ Γ) (i : Nat) (v : Option V) : GOk K B (upF F i []) H (σ.set i v) (Γ.set i none) := by
  have st : Same (hid (hd B F) H) (hid (hd B (upF F i [])) H) := Step.stab step_drop
  refine ⟨by rw [List.length_set, List.length_set, g.ls], fun j k b h1 h2 => ?_, fun j b h => ?_, fun b h => ?_, fun j e h1 => ?_, g.nilS⟩
  · rcases upF_mem h1 with ⟨_, z⟩ | ⟨_, z1⟩
    · cases z
    · rcases upF_mem h2 with ⟨_, z⟩ | ⟨_, z2⟩
      · cases z
      · exact g.dj j k b z1 z2
  · rcases upF_mem h with ⟨_, z⟩ | ⟨_, z⟩
    · cases z
    · exact g.out j b z
  · refine g.own b ?_
    rcases h with z | ⟨j, z⟩
    · exact .inl z
    · rcases upF_mem z with ⟨_, z⟩ | ⟨_, z⟩
      · cases z
      · exact .inr ⟨j, z⟩
  · by_cases e1 : i = j
    · subst e1
      have hl : i < Γ.length := by
        have := (List.getElem?_eq_some_iff.mp h1).1
        rw [List.length_set] at this
        exact this
      rw [List.getElem?_set_self hl] at h1
      cases h1
    · rw [List.getElem?_set_ne e1] at h1
      obtain ⟨u, h2, h3⟩ := g.ent j e h1
      refine ⟨u, by rw [List.getElem?_set_ne e1]; exact h2, ?_⟩
      rw [upF_ne (Ne.symm e1)]
      exact h3.mono st fun _ _ => rfl
/-- hidden: one address more -/
def also (a : Addr) (B : Addr → Prop) : Addr → Prop := fun b => b = a ∨ B b
theorem GOk.bare {a : Addr} (g : GOk K (also a B) F H σ Γ) : GOk K B F H σ Γ := by
  have st : Same (hid (hd (also a B) F) H) (hid (hd B F) H) := fun b o q => by
    obtain ⟨q1, q2⟩ := hid_iff.mp q
    exact hid_iff.mpr ⟨fun z => q1 (z.elim (fun z => .inl (.inr z)) .inr), q2⟩
  refine ⟨g.ls, g.dj, fun i b h z => g.out i b h (.inr z), fun b h => g.own b (h.elim (fun z => .inl (.inr z)) .inr), fun i e h => ?_, g.nil⟩
  obtain ⟨v, h1, h2⟩ := g.ent i e h
  exact ⟨v, h1, h2.mono st fun _ _ => rfl⟩
/-- a slot is set to a new list of its own -/
theorem GOk.setL {a : Addr} (g : GOk K (also a B) F H σ Γ) (i : Nat) (hi : i < Γ.length) {vs : List V} {xs : List PyData} (na : ¬ B a) (ha : H a = some (.lst vs)) (h : DpAll K (hid (hd (also a B) F) H) vs xs) :
    GOk K B (upF F i [a]) H (σ.set i (some (.ref a))) (Γ.set i (some (.l xs))) := by
  have hdI : ∀ b, hd B (upF F i [a]) b → hd (also a B) F b := fun b h => by
    rcases h with z | ⟨j, z⟩
    · exact .inl (.inr z)
    · rcases upF_mem z with ⟨_, z⟩ | ⟨_, z⟩
      · exact .inl (.inl (by simpa using z))
      · exact .inr ⟨j, z⟩
  have st : Same (hid (hd (also a B) F) H) (hid (hd B (upF F i [a])) H) := fun b o q => by
    obtain ⟨q1, q2⟩ := hid_iff.mp q
    exact hid_iff.mpr ⟨fun z => q1 (hdI b z), q2⟩
  refine ⟨by rw [List.length_set, List.length_set, g.ls], fun j k b h1 h2 => ?_, fun j b h => ?_, fun b h => g.own b (hdI b h), fun j e h1 => ?_, fun j h => ?_⟩
  · rcases upF_mem h1 with ⟨e1, z1⟩ | ⟨e1, z1⟩
    · rcases upF_mem h2 with ⟨e2, z2⟩ | ⟨e2, z2⟩
      · rw [e1, e2]
      · exact absurd (.inl (by simpa using z1)) (g.out k b z2)
    · rcases upF_mem h2 with ⟨e2, z2⟩ | ⟨e2, z2⟩
      · exact absurd (.inl (by simpa using z2)) (g.out j b z1)
      · exact g.dj j k b z1 z2
  · rcases upF_mem h with ⟨_, z⟩ | ⟨_, z⟩
    · have : b = a := by simpa using z
      subst this
      exact na
    · exact fun q => g.out j b z (.inr q)
  · by_cases e1 : i = j
    · subst e1
      have hl : i < Γ.length := by
        have := (List.getElem?_eq_some_iff.mp h1).1
        rw [List.length_set] at this
        exact this
      rw [List.getElem?_set_self hl] at h1
      cases h1
      exact ⟨.ref a, List.getElem?_set_self (by rw [g.ls]; exact hl), a, vs, rfl, upF_same, ha, dps_mono st _ h⟩
    · rw [List.getElem?_set_ne e1] at h1
      obtain ⟨u, h2, h3⟩ := g.ent j e h1
      refine ⟨u, by rw [List.getElem?_set_ne e1]; exact h2, ?_⟩
      rw [upF_ne (Ne.symm e1)]
      exact h3.mono st fun _ _ => rfl
  · by_cases e1 : i = j
    · subst e1
      unfold nOwn at h
      rw [List.getElem?_set_self hi] at h
      cases h
    · rw [nOwn_ne e1] at h
      rw [upF_ne (Ne.symm e1)]
      exact g.nil j h
/-- the list of a name's own gets new content -/
theorem GOk.setC (g : GOk K B F H σ Γ) {i : Nat} {xs ys : List PyData} (e : Γ[i]? = some (some (.l xs))) : ∃ a vs, σ[i]? = some (some (.ref a)) ∧ F i = [a] ∧ H a = some (.lst vs) ∧ DpAll K (hid (hd B F) H) vs xs ∧
    ∀ ws, DpAll K (hid (hd B F) H) ws ys → Step F H F (upd H a (.lst ws)) ∧ GOk K B F (upd H a (.lst ws)) σ (Γ.set i (some (.l ys))) := by
  obtain ⟨v, h1, a, vs, rfl, h2, h3, h4⟩ := g.ent i _ e
  have ha : hd B F a := .inr ⟨i, by rw [h2]; simp⟩
  have sm : ∀ o, Same (hid (hd B F) H) (hid (hd B F) (upd H a o)) := fun o b x q => by
    obtain ⟨q1, q2⟩ := hid_iff.mp q
    exact hid_iff.mpr ⟨q1, by rw [upd_ne (fun z => q1 (by rw [z]; exact ha))]; exact q2⟩
  refine ⟨a, vs, h1, h2, h3, h4, fun ws hw => ⟨⟨fun b o q n => ?_, fun j b h => .inl ⟨j, h⟩, fun b h => ?_⟩, by rw [List.length_set]; exact g.ls, g.dj, g.out, fun b h => ?_, fun j e' h' => ?_, fun j h => ?_⟩⟩
  · rw [upd_ne (fun z => n i (by rw [z, h2]; simp))]
    exact q
  · by_cases z : b = a
    · rw [z, upd_same]; simp
    · rw [upd_ne z]; exact h
  · by_cases z : b = a
    · rw [z, upd_same]; simp
    · rw [upd_ne z]; exact g.own b h
  · by_cases e1 : i = j
    · subst e1
      rw [List.getElem?_set_self (List.getElem?_eq_some_iff.mp e).1] at h'
      cases h'
      exact ⟨.ref a, h1, a, ws, rfl, h2, upd_same, dps_mono (sm _) _ hw⟩
    · rw [List.getElem?_set_ne e1] at h'
      obtain ⟨u, h5, h6⟩ := g.ent j _ h'
      refine ⟨u, h5, h6.mono (sm _) fun b hb => upd_ne fun z => e1 ?_⟩
      exact g.dj i j b (by rw [z, h2]; simp) hb
  · by_cases e1 : i = j
    · subst e1
      unfold nOwn at h
      rw [List.getElem?_set_self (List.getElem?_eq_some_iff.mp e).1] at h
      cases h
    · rw [nOwn_ne e1] at h
      exact g.nil j h
/-- a list of a name's own stands still from here on -/
theorem GOk.freeze (g : GOk K B F H σ Γ) {i : Nat} {xs : List PyData} (e : Γ[i]? = some (some (.l xs))) : GOk K B (upF F i []) H σ (Γ.set i (some (.d (.list xs)))) := by
  obtain ⟨v, h1, a, vs, rfl, h2, h3, h4⟩ := g.ent i _ e
  have st : Same (hid (hd B F) H) (hid (hd B (upF F i [])) H) := Step.stab step_drop
  have na : ¬ hd B (upF F i []) a := fun z => by
    rcases z with z | ⟨j, z⟩
    · exact g.out i a (by rw [h2]; simp) z
    · rcases upF_mem z with ⟨_, z⟩ | ⟨n, z⟩
      · cases z
      · exact n (g.dj j i a z (by rw [h2]; simp))
  refine ⟨by rw [List.length_set]; exact g.ls, fun j k b h1 h2 => ?_, fun j b h => ?_, fun b h => ?_, fun j e' h' => ?_, g.nilS⟩
  · rcases upF_mem h1 with ⟨_, z⟩ | ⟨_, z1⟩
    · cases z
    · rcases upF_mem h2 with ⟨_, z⟩ | ⟨_, z2⟩
      · cases z
      · exact g.dj j k b z1 z2
  · rcases upF_mem h with ⟨_, z⟩ | ⟨_, z⟩
    · cases z
    · exact g.out j b z
  · refine g.own b ?_
    rcases h with z | ⟨j, z⟩
    · exact .inl z
    · rcases upF_mem z with ⟨_, z⟩ | ⟨_, z⟩
      · cases z
      · exact .inr ⟨j, z⟩
  · by_cases e1 : i = j
    · subst e1
      rw [List.getElem?_set_self (List.getElem?_eq_some_iff.mp e).1] at h'
      cases h'
      exact ⟨.ref a, h1, .lst (.of (hid_iff.mpr ⟨na, h3⟩)) (dps_mono st _ h4)⟩
    · rw [List.getElem?_set_ne e1] at h'
      obtain ⟨u, h5, h6⟩ := g.ent j _ h'
      refine ⟨u, h5, ?_⟩
      rw [upF_ne (Ne.symm e1)]
      exact h6.mono st fun _ _ => rfl
end
end Mt

set_option maxHeartbeats 1000000
namespace Mt
open PySem PySem.Spec PyProof.Rows L2

/-! ### the readings that mean just that it runs -/
def sE (X : Cx) (e : Expr) : TE := fun σ H Q => ∀ (pins : List (Addr × Obj)) (s : Shared), Inv X pins σ H s → wpAny (model X.prog X.w) X.A (eval e X.env) (EP X pins σ Q) X.xe s
def sT (X : Cx) (e : Expr) : TT := fun σ H Q => ∀ (pins : List (Addr × Obj)) (s : Shared), Inv X pins σ H s → wpAny (model X.prog X.w) X.A (isTrue e X.env (eval e X.env)) (TP X pins σ Q) X.xe s
def sW (X : Cx) (e : Expr) : TT := fun σ H Q => ∀ (whole : Sem Value) (pins : List (Addr × Obj)) (s : Shared), Inv X pins σ H s → wpAny (model X.prog X.w) X.A (isTrue e X.env whole) (TP X pins σ Q) X.xe s
def sA (X : Cx) (es : List Expr) : TA := fun σ H Q => ∀ (pos : Pos) (pins : List (Addr × Obj)) (s : Shared), Inv X pins σ H s → wpAny (model X.prog X.w) X.A (spliced (backTo pos (starEach es X.env))) (AP X pins σ Q) X.xe s
def sS (X : Cx) (st : Stmt) : TS := fun D σ H => ∀ (pins : List (Addr × Obj)) (s : Shared), Inv X pins σ H s → wpAny (model X.prog X.w) X.A (exec st X.env) (SP X pins D) X.xe s
def sB (X : Cx) (st : List Stmt) : TS := fun D σ H => ∀ (pins : List (Addr × Obj)) (s : Shared), Inv X pins σ H s → wpAny (model X.prog X.w) X.A (execs st X.env) (SP X pins D) X.xe s
def sI (X : Cx) (tg iter : Expr) : TI := fun σ H R => ∀ (pins : List (Addr × Obj)) (s : Shared), Inv X pins σ H s → wpAny (model X.prog X.w) X.A (eval iter X.env) (fun v s1 => wpAny (model X.prog X.w) X.A (pyIter v) (PIE X pins σ tg R) X.xe s1) X.xe s
def sC (X : Cx) (ifs : List Expr) : TT := fun σ H Q => ∀ (pins : List (Addr × Obj)) (s : Shared), Inv X pins σ H s →
  wpAny (model X.prog X.w) X.A (forIn ifs true fun c r => if r = true then do let ok ← isTrue c X.env (eval c X.env); pure (ForInStep.yield ok) else pure (ForInStep.yield r)) (TP X pins σ Q) X.xe s
section
variable {X : Cx} {e tg iter : Expr} {es : List Expr} {st : Stmt} {sts : List Stmt} {σ : L2.St} {H : Hp}
theorem pe_s : PE X e (sE X e) := ⟨fun pins s _ _ _ I h => h pins s I⟩
theorem pt_s : PT X e (sT X e) := ⟨fun pins s _ _ _ I h => h pins s I⟩
theorem pw_s : PW X e (sW X e) := ⟨fun wh pins s _ _ _ I h => h wh pins s I⟩
theorem pa_s : PA X es (sA X es) := ⟨fun p pins s _ _ _ I h => h p pins s I⟩
theorem ps_s : PS X st (sS X st) := ⟨fun pins s _ _ _ I h => h pins s I⟩
theorem pb_s : PSs X sts (sB X sts) := ⟨fun pins s _ _ _ I h => h pins s I⟩
theorem pi_s : PI X tg iter (sI X tg iter) := ⟨fun pins s _ _ _ I h => h pins s I⟩
theorem pc_s : PTs X es (sC X es) := ⟨fun pins s _ _ _ I h => h pins s I⟩
theorem sE_of {t : TE} {Q : VK} (h : PE X e t) (q : t σ H Q) : sE X e σ H Q := fun pins s I => h.run pins s σ H Q I q
theorem sT_of {t : TT} {Q : Bool → Hp → Prop} (h : PT X e t) (q : t σ H Q) : sT X e σ H Q := fun pins s I => h.run pins s σ H Q I q
theorem sW_of {t : TT} {Q : Bool → Hp → Prop} (h : PW X e t) (q : t σ H Q) : sW X e σ H Q := fun wh pins s I => h.run wh pins s σ H Q I q
theorem sA_of {t : TA} {Q : List V → Hp → Prop} (h : PA X es t) (q : t σ H Q) : sA X es σ H Q := fun p pins s I => h.run p pins s σ H Q I q
theorem sS_of {t : TS} {D : Ends} (h : PS X st t) (q : t D σ H) : sS X st D σ H := fun pins s I => h.run pins s σ H D I q
theorem sB_of {t : TS} {D : Ends} (h : PSs X sts t) (q : t D σ H) : sB X sts D σ H := fun pins s I => h.run pins s σ H D I q
theorem sI_of {t : TI} {R : It → Hp → Prop} (h : PI X tg iter t) (q : t σ H R) : sI X tg iter σ H R := fun pins s I => h.run pins s σ H R I q
theorem sC_of {t : TT} {Q : Bool → Hp → Prop} (h : PTs X es t) (q : t σ H Q) : sC X es σ H Q := fun pins s I => h.run pins s σ H Q I q
theorem sE_imp {Q Q' : VK} (h : sE X e σ H Q) (q : ∀ v H', Q v H' → Q' v H') : sE X e σ H Q' := fun pins s I => thn (h pins s I) fun _ _ ⟨v, H', a, b, c⟩ => ⟨v, H', a, b, q v H' c⟩
theorem sT_imp {Q Q' : Bool → Hp → Prop} (h : sT X e σ H Q) (q : ∀ v H', Q v H' → Q' v H') : sT X e σ H Q' := fun pins s I => thn (h pins s I) fun _ _ ⟨H', a, c⟩ => ⟨H', a, q _ H' c⟩
theorem sA_imp {Q Q' : List V → Hp → Prop} (h : sA X es σ H Q) (q : ∀ v H', Q v H' → Q' v H') : sA X es σ H Q' := fun p pins s I => thn (h p pins s I) fun _ _ ⟨v, H', a, b, c⟩ => ⟨v, H', a, b, q v H' c⟩
end

/-! ### expressions that only make new things: what they are worth -/
/-- e is worth d -/
def EvP (X : Cx) (e : Expr) (Γ : Gm) (d : PyData) : Prop := ∀ (B : Addr → Prop) F σ H Q, GOk X.K B F H σ Γ → (∀ v H', Same H H' → Dp X.K (hid (hd B F) H') v d → Q v H') → sE X e σ H Q
/-- e is a test that comes out as b -/
def EvT (X : Cx) (e : Expr) (Γ : Gm) (b : Bool) : Prop := ∀ (B : Addr → Prop) F σ H Q, GOk X.K B F H σ Γ → (∀ H', Same H H' → Q b H') → sT X e σ H Q
def EvW (X : Cx) (e : Expr) (Γ : Gm) (b : Bool) : Prop := ∀ (B : Addr → Prop) F σ H Q, GOk X.K B F H σ Γ → (∀ H', Same H H' → Q b H') → sW X e σ H Q
def EvC (X : Cx) (es : List Expr) (Γ : Gm) (b : Bool) : Prop := ∀ (B : Addr → Prop) F σ H Q, GOk X.K B F H σ Γ → (∀ H', Same H H' → Q b H') → sC X es σ H Q
/-- the arguments are worth ds -/
def EvA (X : Cx) (es : List Expr) (Γ : Gm) (ds : List PyData) : Prop := ∀ (B : Addr → Prop) F σ H Q, GOk X.K B F H σ Γ → (∀ vs H', Same H H' → DpAll X.K (hid (hd B F) H') vs ds → Q vs H') → sA X es σ H Q
/-- e is a new list of ds -/
def EvF (X : Cx) (e : Expr) (Γ : Gm) (ds : List PyData) : Prop := ∀ (B : Addr → Prop) F σ H Q, GOk X.K B F H σ Γ → (∀ a vs H', Same H H' → H a = none → H' a = some (.lst vs) → DpAll X.K (hid (hd (also a B) F) H') vs ds → Q (.ref a) H') → sE X e σ H Q
/-- what a walk yields -/
structure Yl (K : PySem.W.Frag) (S : Hp) (J : It) (ds : List PyData) : Prop where
  go : ∀ i H, Same S H → i < ds.length → J.go i H
  stop : ∀ H, Same S H → J.stop ds.length H
  yld : ∀ i H x H' d, Same S H → ds[i]? = some d → J.yld i H x H' → Same H H' ∧ ∀ Bd : Addr → Prop, (∀ b, Bd b → H b ≠ none) → Same S (hid Bd H) → Dp K (hid Bd H') x d
def EvI (X : Cx) (tg iter : Expr) (Γ : Gm) (ds : List PyData) : Prop := ∀ (B : Addr → Prop) F σ H R, GOk X.K B F H σ Γ → (∀ J H', Same H H' → Yl X.K (hid (hd B F) H') J ds → R J H') → sI X tg iter σ H R

def isN : PyData → Bool
  | .none => true
  | _ => false
section
variable {X : Cx} {a b c e : Expr} {es : List Expr} {Γ : Gm} {d : PyData} {ds : List PyData} {pos : Pos}
theorem hid_same {B : Addr → Prop} {H H' : Hp} (s : Same H H') : Same (hid B H) (hid B H') := fun b o q => by
  obtain ⟨q1, q2⟩ := hid_iff.mp q
  exact hid_iff.mpr ⟨q1, s b o q2⟩
theorem hid_new {B : Addr → Prop} {H : Hp} {a : Addr} {o : HO} (own : ∀ b, B b → H b ≠ none) (h : H a = none) : hid B (upd H a o) a = some o := hid_iff.mpr ⟨fun z => own a z h, upd_same⟩
theorem evp_var (i : Nat) {x : Str} (hΓ : Γ[i]? = some (some (.d d)) := by rfl) (hN : X.N[i]? = some x := by rfl) (hv : Vis X.env.scope x := by first | exact Or.inl rfl | exact Or.inr (Or.inl rfl) | exact Or.inr (Or.inr rfl))
    (hd : (x == ("__debug__" : Str)) = false := by decide) (hcd : (x == ("__classdict__" : Str)) = false := by decide) : EvP X (.Name x pos) Γ d := fun B F σ H Q g k => by
  obtain ⟨v, h1, h2⟩ := g.data hΓ
  exact sE_of (pe_var hN hv hd hcd) ⟨v, h1, k v H (Same.refl _) h2⟩
theorem evp_int {i : Int} {j : Nat} : EvP X (.Constant (.int i) j pos) Γ (.int i) := fun B F σ H Q g k => sE_of pe_int (k _ H (Same.refl _) (.int i))
theorem evp_bool {i : Bool} {j : Nat} : EvP X (.Constant (.bool i) j pos) Γ (.bool i) := fun B F σ H Q g k => sE_of pe_bl (k _ H (Same.refl _) (.bl i))
theorem evp_none {j : Nat} : EvP X (.Constant .none j pos) Γ .none := fun B F σ H Q g k => sE_of pe_non (k _ H (Same.refl _) .non)
/-- a module's constant -/
theorem evp_glob {x : Str} {i : Int} (hg : Gl X x) (hm : ∃ t, X.mg x = some (.int i t)) (hd : (x == ("__debug__" : Str)) = false := by decide) : EvP X (.Name x pos) Γ (.int i) := fun B F σ H Q g k => by
  obtain ⟨t, hm⟩ := hm
  exact sE_of (pe_glob (v := .int i) hg hm ⟨t, rfl⟩ hd) (k _ H (Same.refl _) (.int i))
/-- two in a row -/
theorem evp_two {R : V → V → Hp → Prop} {B : Addr → Prop} {F : Nat → List Addr} {σ : L2.St} {H : Hp} {d1 d2 : PyData} (ha : EvP X a Γ d1) (hb : EvP X b Γ d2) (g : GOk X.K B F H σ Γ)
    (k : ∀ v u H', Same H H' → Dp X.K (hid (hd B F) H') v d1 → Dp X.K (hid (hd B F) H') u d2 → R v u H') : sE X a σ H fun v H1 => sE X b σ H1 fun u H2 => R v u H2 :=
  ha B F σ H _ g fun v H1 s1 q1 => hb B F σ H1 _ (g.grow s1) fun u H2 s2 q2 => k v u H2 (s1.trans s2) (dp_mono (hid_same s2) _ q1) q2
theorem evp_bin {op : Operator} {C : Int → Int → Prop} {f : Int → Int → Int} {i j : Int} (ho : OpR X (binaryOp op) (rI C fun i j => .int (f i j))) (hc : C i j) (ha : EvP X a Γ (.int i)) (hb : EvP X b Γ (.int j)) : EvP X (.BinOp a op b pos) Γ (.int (f i j)) := fun B F σ H Q g k =>
  sE_of (pe_op ho pe_s pe_s) (evp_two ha hb g fun v u H' s q1 q2 => ⟨i, j, dp_int q1, dp_int q2, hc, k _ H' s (.int _)⟩)
theorem evp_bin0 {op : Operator} {f : Int → Int → Int} {i j : Int} (ho : OpR X (binaryOp op) (rI0 fun i j => .int (f i j))) (ha : EvP X a Γ (.int i)) (hb : EvP X b Γ (.int j)) : EvP X (.BinOp a op b pos) Γ (.int (f i j)) := fun B F σ H Q g k =>
  sE_of (pe_op ho pe_s pe_s) (evp_two ha hb g fun v u H' s q1 q2 => ⟨i, j, dp_int q1, dp_int q2, k _ H' s (.int _)⟩)
theorem evp_un {op : UnaryOp} {f : Int → Int} {i : Int} (ho : UnR X (unaryOp op) (rU fun i => .int (f i))) (ha : EvP X a Γ (.int i)) : EvP X (.UnaryOp op a pos) Γ (.int (f i)) := fun B F σ H Q g k =>
  sE_of (pe_un ho pe_s) (ha B F σ H _ g fun v H' s q => ⟨i, dp_int q, k _ H' s (.int _)⟩)
/-- comparisons of ints -/
theorem evp_cmp {op : CmpOp} {f : Int → Int → Bool} {i j : Int} (ho : OpR X (compareOp op) (rI0 fun i j => .bl (f i j))) (ha : EvP X a Γ (.int i)) (hb : EvP X b Γ (.int j)) (hm : behindInMarks op b = false := by exact nomark _) : EvP X (.Compare a [op] [b] pos) Γ (.bool (f i j)) := fun B F σ H Q g k =>
  sE_of (pe_cmpR ho pe_s pe_s hm) (evp_two ha hb g fun v u H' s q1 q2 => ⟨i, j, dp_int q1, dp_int q2, k _ H' s (.bl _)⟩)
theorem op_eqI : OpR X (compareOp .Eq) (rI0 fun i j => .bl (decide (i = j))) := fun pins s σ H x y v u Q I rx ry ⟨i, j, e1, e2, q⟩ => by
  subst e1 e2
  exact op_eq pins s σ H _ _ v u Q I rx ry ⟨rfl, by rw [show decide (V.int i = V.int j) = decide (i = j) by rw [dec_int]; rfl]; exact q⟩
theorem op_neI : OpR X (compareOp .NotEq) (rI0 fun i j => .bl (!decide (i = j))) := fun pins s σ H x y v u Q I rx ry ⟨i, j, e1, e2, q⟩ => by
  subst e1 e2
  exact op_ne pins s σ H _ _ v u Q I rx ry ⟨rfl, by rw [show decide (V.int i = V.int j) = decide (i = j) by rw [dec_int]; rfl]; exact q⟩
theorem evp_eqI {i j : Int} (ha : EvP X a Γ (.int i)) (hb : EvP X b Γ (.int j)) : EvP X (.Compare a [.Eq] [b] pos) Γ (.bool (decide (i = j))) := evp_cmp op_eqI ha hb
theorem evp_neI {i j : Int} (ha : EvP X a Γ (.int i)) (hb : EvP X b Γ (.int j)) : EvP X (.Compare a [.NotEq] [b] pos) Γ (.bool (!decide (i = j))) := evp_cmp op_neI ha hb
/-- texts -/
theorem evp_eqS {x y : Str} (ha : EvP X a Γ (.str x)) (hb : EvP X b Γ (.str y)) : EvP X (.Compare a [.Eq] [b] pos) Γ (.bool (decide (x = y))) := fun B F σ H Q g k =>
  sE_of (pe_cmpR op_eq pe_s pe_s (nomark _)) (evp_two ha hb g fun v u H' s q1 q2 => by
    cases q1
    cases q2
    exact ⟨rfl, by rw [show decide (V.str x = V.str y) = decide (x = y) by rw [dec_str]; rfl]; exact k _ H' s (.bl _)⟩)
theorem evp_neS {x y : Str} (ha : EvP X a Γ (.str x)) (hb : EvP X b Γ (.str y)) : EvP X (.Compare a [.NotEq] [b] pos) Γ (.bool (!decide (x = y))) := fun B F σ H Q g k =>
  sE_of (pe_cmpR op_ne pe_s pe_s (nomark _)) (evp_two ha hb g fun v u H' s q1 q2 => by
    cases q1
    cases q2
    exact ⟨rfl, by rw [show decide (V.str x = V.str y) = decide (x = y) by rw [dec_str]; rfl]; exact k _ H' s (.bl _)⟩)
/-- data at any depth -/
theorem evp_eqD {d1 d2 : PyData} (hu : X.A.units + 64 < cLine) (ha : EvP X a Γ d1) (hb : EvP X b Γ d2) (s1 : SeqAt.shaped d1 = true) (s2 : SeqAt.shaped d2 = true) : EvP X (.Compare a [.Eq] [b] pos) Γ (.bool (PyData.eqv d1 d2)) := fun B F σ H Q g k =>
  sE_of (pe_cmpR (op_eqD hu) pe_s pe_s (nomark _)) (evp_two ha hb g fun v u H' s q1 q2 => ⟨d1, d2, dp_up _ (dp_mono hid_le _ q1), dp_up _ (dp_mono hid_le _ q2), s1, s2, k _ H' s (.bl _)⟩)
theorem evp_neD {d1 d2 : PyData} (hu : X.A.units + 64 < cLine) (ha : EvP X a Γ d1) (hb : EvP X b Γ d2) (s1 : SeqAt.shaped d1 = true) (s2 : SeqAt.shaped d2 = true) : EvP X (.Compare a [.NotEq] [b] pos) Γ (.bool (!PyData.eqv d1 d2)) := fun B F σ H Q g k =>
  sE_of (pe_cmpR (op_neD hu) pe_s pe_s (nomark _)) (evp_two ha hb g fun v u H' s q1 q2 => ⟨d1, d2, dp_up _ (dp_mono hid_le _ q1), dp_up _ (dp_mono hid_le _ q2), s1, s2, k _ H' s (.bl _)⟩)
theorem dp_isN {K : PySem.W.Frag} {H : Hp} {v : V} (h : Dp K H v d) : decide (v = V.non) = isN d := by cases h <;> simp [isN]
theorem evp_isN {j : Nat} {p2 : Pos} (ha : EvP X a Γ d) : EvP X (.Compare a [.Is] [.Constant .none j p2] pos) Γ (.bool (isN d)) := fun B F σ H Q g k =>
  sE_of (pe_cmp (pc_isN pe_s) rfl) (ha B F σ H _ g fun v H' s q => by
    rw [dp_isN q]
    exact k _ H' s (.bl _))
theorem evt_isN {j : Nat} {p2 : Pos} (ha : EvP X a Γ d) : EvT X (.Compare a [.Is] [.Constant .none j p2] pos) Γ (isN d) := fun B F σ H Q g k =>
  sT_of (pt_cmp (pc_isN pe_s) rfl) (ha B F σ H _ g fun v H' s q => ⟨isN d, by rw [dp_isN q], k H' s⟩)
/-- tests -/
theorem evt_val {k : Bool} (ha : EvP X a Γ (.bool k)) (he : ∀ whole, isTrue a X.env whole = (do let v ← whole; standAt a.pos; holding [v] (truthy v)) := by intro _; rfl) : EvT X a Γ k := fun B F σ H Q g h =>
  sT_of (pt_val pe_s he) (ha B F σ H _ g fun v H' s q => ⟨k, dp_bool q, h H' s⟩)
theorem evt_int {i : Int} (ha : EvP X a Γ (.int i)) (he : ∀ whole, isTrue a X.env whole = (do let v ← whole; standAt a.pos; holding [v] (truthy v)) := by intro _; rfl) : EvT X a Γ (i != 0) := fun B F σ H Q g h =>
  sT_of (pt_truth pe_s he) (ha B F σ H _ g fun v H' s q => ⟨i != 0, by rw [dp_int q]; rfl, h H' s⟩)
theorem evt_cmp {op : CmpOp} {f : Int → Int → Bool} {i j : Int} (ho : OpR X (compareOp op) (rI0 fun i j => .bl (f i j))) (ha : EvP X a Γ (.int i)) (hb : EvP X b Γ (.int j)) (hm : behindInMarks op b = false := by exact nomark _) : EvT X (.Compare a [op] [b] pos) Γ (f i j) := fun B F σ H Q g k =>
  sT_of (pt_cmpR ho pe_s pe_s hm) (evp_two ha hb g fun v u H' s q1 q2 => ⟨i, j, dp_int q1, dp_int q2, _, rfl, k H' s⟩)
theorem evt_eqI {i j : Int} (ha : EvP X a Γ (.int i)) (hb : EvP X b Γ (.int j)) : EvT X (.Compare a [.Eq] [b] pos) Γ (decide (i = j)) := evt_cmp op_eqI ha hb
theorem evt_neI {i j : Int} (ha : EvP X a Γ (.int i)) (hb : EvP X b Γ (.int j)) : EvT X (.Compare a [.NotEq] [b] pos) Γ (!decide (i = j)) := evt_cmp op_neI ha hb
theorem evt_eqS {x y : Str} (ha : EvP X a Γ (.str x)) (hb : EvP X b Γ (.str y)) : EvT X (.Compare a [.Eq] [b] pos) Γ (decide (x = y)) := fun B F σ H Q g k =>
  sT_of (pt_cmpR op_eq pe_s pe_s (nomark _)) (evp_two ha hb g fun v u H' s q1 q2 => by
    cases q1
    cases q2
    exact ⟨rfl, _, rfl, by rw [show decide (V.str x = V.str y) = decide (x = y) by rw [dec_str]; rfl]; exact k H' s⟩)
theorem evt_neS {x y : Str} (ha : EvP X a Γ (.str x)) (hb : EvP X b Γ (.str y)) : EvT X (.Compare a [.NotEq] [b] pos) Γ (!decide (x = y)) := fun B F σ H Q g k =>
  sT_of (pt_cmpR op_ne pe_s pe_s (nomark _)) (evp_two ha hb g fun v u H' s q1 q2 => by
    cases q1
    cases q2
    exact ⟨rfl, _, rfl, by rw [show decide (V.str x = V.str y) = decide (x = y) by rw [dec_str]; rfl]; exact k H' s⟩)
theorem evt_eqD {d1 d2 : PyData} (hu : X.A.units + 64 < cLine) (ha : EvP X a Γ d1) (hb : EvP X b Γ d2) (s1 : SeqAt.shaped d1 = true) (s2 : SeqAt.shaped d2 = true) : EvT X (.Compare a [.Eq] [b] pos) Γ (PyData.eqv d1 d2) := fun B F σ H Q g k =>
  sT_of (pt_cmpR (op_eqD hu) pe_s pe_s (nomark _)) (evp_two ha hb g fun v u H' s q1 q2 => ⟨d1, d2, dp_up _ (dp_mono hid_le _ q1), dp_up _ (dp_mono hid_le _ q2), s1, s2, _, rfl, k H' s⟩)
theorem evt_neD {d1 d2 : PyData} (hu : X.A.units + 64 < cLine) (ha : EvP X a Γ d1) (hb : EvP X b Γ d2) (s1 : SeqAt.shaped d1 = true) (s2 : SeqAt.shaped d2 = true) : EvT X (.Compare a [.NotEq] [b] pos) Γ (!PyData.eqv d1 d2) := fun B F σ H Q g k =>
  sT_of (pt_cmpR (op_neD hu) pe_s pe_s (nomark _)) (evp_two ha hb g fun v u H' s q1 q2 => ⟨d1, d2, dp_up _ (dp_mono hid_le _ q1), dp_up _ (dp_mono hid_le _ q2), s1, s2, _, rfl, k H' s⟩)
theorem evt_not {k : Bool} (ha : EvT X a Γ k) : EvT X (.UnaryOp .Not a pos) Γ (!k) := fun B F σ H Q g h => sT_of (pt_not pt_s) (ha B F σ H _ g h)
theorem evw_t {k : Bool} (ha : EvW X a Γ k) : EvT X a Γ k := fun B F σ H Q g h => sT_of (PW.pt pw_s) (ha B F σ H _ g h)
theorem evw_and1 {k : Bool} (ha : EvT X a Γ k) : EvW X (.BoolOp .And [a] pos) Γ k := fun B F σ H Q g h => sW_of (pw_and1 pt_s) (ha B F σ H _ g h)
theorem evw_or1 {k : Bool} (ha : EvT X a Γ k) : EvW X (.BoolOp .Or [a] pos) Γ k := fun B F σ H Q g h => sW_of (pw_or1 pt_s) (ha B F σ H _ g h)
/-- b is asked where a holds -/
theorem evw_and {k m : Bool} {rest : List Expr} (ha : EvT X a Γ k) (hb : k = true → EvW X (.BoolOp .And (b :: rest) pos) Γ m) : EvW X (.BoolOp .And (a :: b :: rest) pos) Γ (k && m) := fun B F σ H Q g h =>
  sW_of (pw_and pt_s pw_s) (ha B F σ H _ g fun H1 s1 => by
    cases k with
    | true => exact iteT (hb rfl B F σ H1 _ (g.grow s1) fun H2 s2 => h H2 (s1.trans s2))
    | false => exact iteF (h H1 s1))
theorem evw_or {k m : Bool} {rest : List Expr} (ha : EvT X a Γ k) (hb : k = false → EvW X (.BoolOp .Or (b :: rest) pos) Γ m) : EvW X (.BoolOp .Or (a :: b :: rest) pos) Γ (k || m) := fun B F σ H Q g h =>
  sW_of (pw_or pt_s pw_s) (ha B F σ H _ g fun H1 s1 => by
    cases k with
    | true => exact iteT (h H1 s1)
    | false => exact iteF (hb rfl B F σ H1 _ (g.grow s1) fun H2 s2 => h H2 (s1.trans s2)))
theorem evt_and {k m : Bool} (ha : EvT X a Γ k) (hb : k = true → EvT X b Γ m) : EvT X (.BoolOp .And [a, b] pos) Γ (k && m) := evw_t (evw_and ha fun h => evw_and1 (hb h))
theorem evt_or {k m : Bool} (ha : EvT X a Γ k) (hb : k = false → EvT X b Γ m) : EvT X (.BoolOp .Or [a, b] pos) Γ (k || m) := evw_t (evw_or ha fun h => evw_or1 (hb h))
theorem evp_if {k : Bool} {d1 d2 : PyData} (hc : EvT X c Γ k) (ha : k = true → EvP X a Γ d1) (hb : k = false → EvP X b Γ d2) : EvP X (.IfExp c a b pos) Γ (if k = true then d1 else d2) := fun B F σ H Q g h =>
  sE_of (pe_ifExp pt_s pe_s pe_s) (hc B F σ H _ g fun H1 s1 => by
    cases k with
    | true => exact iteT (ha rfl B F σ H1 _ (g.grow s1) fun v H2 s2 q => h v H2 (s1.trans s2) q)
    | false => exact iteF (hb rfl B F σ H1 _ (g.grow s1) fun v H2 s2 q => h v H2 (s1.trans s2) q))
/-- arguments, displays -/
theorem eva_nil : EvA X [] Γ [] := fun B F σ H Q g h => sA_of pa_nil (h [] H (Same.refl _) .nil)
theorem eva_cons (ha : EvP X e Γ d) (hr : EvA X es Γ ds) (hs : starEach (e :: es) X.env = (false, eval e X.env) :: starEach es X.env := by rfl) : EvA X (e :: es) Γ (d :: ds) := fun B F σ H Q g h =>
  sA_of (pa_cons pe_s pa_s hs) (ha B F σ H _ g fun v H1 s1 q1 => hr B F σ H1 _ (g.grow s1) fun vs H2 s2 q2 => h _ H2 (s1.trans s2) (.cons (dp_mono (hid_same s2) _ q1) q2))
theorem evp_tup {n : Nat} (ha : EvA X es Γ ds) (hl0 : Nat.ble ds.length 100 = true := by rfl) : EvP X (.Tuple es n pos) Γ (.tuple ds) := fun B F σ H Q g h =>
  have hl : ds.length ≤ sizeLine := Nat.le_trans (Nat.le_of_ble_eq_true hl0) (by decide)
  sE_of (pe_tup pa_s) (ha B F σ H _ g fun vs H1 s1 q => ⟨by rw [dps_len q]; exact hl, fun p hp =>
    have s2 := same_new (o := .tup vs) hp
    h _ _ (s1.trans s2) (.tup (.of (hid_new (fun b z => (g.grow s1).own b z) hp)) (dps_mono (hid_same s2) _ q))⟩)
theorem grow_free {B : Addr → Prop} {F : Nat → List Addr} {σ : L2.St} {H H1 : Hp} {K : PySem.W.Frag} {p : Addr} (g : GOk K B F H σ Γ) (s1 : Same H H1) (hp : H1 p = none) : Same (hid (hd B F) H1) (hid (hd (also p B) F) (upd H1 p o)) := fun b x q => by
  obtain ⟨q1, q2⟩ := hid_iff.mp q
  have ne : b ≠ p := ne_of_none q2 hp
  exact hid_iff.mpr ⟨fun z => z.elim (fun z => z.elim ne fun z => q1 (.inl z)) fun z => q1 (.inr z), by rw [upd_ne ne]; exact q2⟩
/-- a list is laid -/
theorem evf_laid {B : Addr → Prop} {F : Nat → List Addr} {σ : L2.St} {H H1 : Hp} {Q : VK} {vs : List V} {ds : List PyData} (g : GOk X.K B F H σ Γ)
    (h : ∀ a vs H', Same H H' → H a = none → H' a = some (.lst vs) → DpAll X.K (hid (hd (also a B) F) H') vs ds → Q (.ref a) H') (s1 : Same H H1) (q : DpAll X.K (hid (hd B F) H1) vs ds) (p : Addr) (hp : H1 p = none) : Q (.ref p) (upd H1 p (.lst vs)) :=
  h p vs _ (s1.trans (same_new hp)) (s1.free hp) upd_same (dps_mono (grow_free g s1 hp) _ q)
theorem evf_lst (ha : EvA X es Γ ds) (hl0 : Nat.ble ds.length 100 = true := by rfl) : EvF X (.List es pos) Γ ds := fun B F σ H Q g h =>
  have hl : ds.length ≤ sizeLine := Nat.le_trans (Nat.le_of_ble_eq_true hl0) (by decide)
  sE_of (pe_lst pa_s) (ha B F σ H _ g fun vs H1 s1 q => ⟨by rw [dps_len q]; exact hl, fun p hp => evf_laid g h s1 q p hp⟩)
theorem evf_p (ha : EvF X e Γ ds) : EvP X e Γ (.list ds) := fun B F σ H Q g h => ha B F σ H _ g fun a vs H1 s1 n e q => h _ H1 s1 (by
  have na : ¬ hd B F a := fun z => g.own a z n
  refine .lst (.of (hid_iff.mpr ⟨na, e⟩)) (dps_mono (fun b o z => ?_) _ q)
  obtain ⟨z1, z2⟩ := hid_iff.mp z
  exact hid_iff.mpr ⟨fun w => z1 (w.elim (fun w => .inl (.inr w)) .inr), z2⟩)
end
end Mt

set_option maxHeartbeats 1000000
namespace Mt
open PySem PySem.Spec PyProof.Rows L2

/-! ### walks -/
theorem yl_list {K : PySem.W.Frag} {S : Hp} {a : Addr} {vs : List V} {ds : List PyData} (h : SqL K S a vs) (q : DpAll K S vs ds) : Yl K S (Itl K a) ds where
  go := fun i H s hi => ⟨vs, vs[i]'(by rw [dps_len q]; exact hi), s.seq h, List.getElem?_eq_getElem _⟩
  stop := fun H s => ⟨vs, s.seq h, Nat.le_of_eq (dps_len q)⟩
  yld := fun i H x H' d s hd ⟨e, y⟩ => by
    subst e
    refine ⟨Same.refl _, fun Bd _ sB => ?_⟩
    obtain ⟨v, h1, h2⟩ := dps_get q hd
    rw [y vs (s.seq h)] at h1
    cases h1
    exact dp_mono sB _ h2
theorem yl_tup {K : PySem.W.Frag} {S : Hp} {a : Addr} {vs : List V} {ds : List PyData} (h : SqT K S a vs) (q : DpAll K S vs ds) : Yl K S (Itt K a) ds where
  go := fun i H s hi => ⟨vs, vs[i]'(by rw [dps_len q]; exact hi), same_seqT s h, List.getElem?_eq_getElem _⟩
  stop := fun H s => ⟨vs, same_seqT s h, Nat.le_of_eq (dps_len q)⟩
  yld := fun i H x H' d s hd ⟨e, y⟩ => by
    subst e
    refine ⟨Same.refl _, fun Bd _ sB => ?_⟩
    obtain ⟨v, h1, h2⟩ := dps_get q hd
    rw [y vs (same_seqT s h)] at h1
    cases h1
    exact dp_mono sB _ h2
/-- the ints below n -/
def upto (n : Nat) : List PyData := (List.range n).map fun i => PyData.int (i : Nat)
theorem upto_len (n : Nat) : (upto n).length = n := by unfold upto; simp
theorem yl_rng {K : PySem.W.Frag} {S : Hp} {n : Nat} : Yl K S (Itr 0 n) (upto n) where
  go := fun i H s hi => by rw [upto_len] at hi; exact hi
  stop := fun H s => by
    show n ≤ (upto n).length
    rw [upto_len]
    exact Nat.le_refl _
  yld := fun i H x H' d s hd ⟨e, y⟩ => by
    subst e y
    refine ⟨Same.refl _, fun Bd _ sB => ?_⟩
    have hi : i < n := by
      have := (List.getElem?_eq_some_iff.mp hd).1
      rw [upto_len] at this
      exact this
    unfold upto at hd
    rw [List.getElem?_map, List.getElem?_range hi] at hd
    cases hd
    show Dp K _ (.int (0 + ((i : Nat) : Int))) (.int ((i : Nat) : Int))
    rw [Int.zero_add]
    exact .int _
theorem yl_enum {K : PySem.W.Frag} {S : Hp} {a : Addr} {vs : List V} {ds : List PyData} (h : SqL K S a vs) (q : DpAll K S vs ds) : Yl K S (Ite K a) (ds.zipIdx.map fun p => PyData.tuple [.int (p.2 : Nat), p.1]) where
  go := fun i H s hi => ⟨vs, vs[i]'(by rw [dps_len q]; simpa using hi), s.seq h, List.getElem?_eq_getElem _⟩
  stop := fun H s => ⟨vs, s.seq h, by rw [dps_len q]; simp⟩
  yld := fun i H x H' d s hd ⟨T, y, e1, nT, e2, hy⟩ => by
    subst e1 e2
    have s2 : Same H (upd H T (.tup [.int (i : Nat), y])) := same_new nT
    refine ⟨s2, fun Bd own sB => ?_⟩
    rw [List.getElem?_map, List.getElem?_zipIdx] at hd
    cases hz : ds[i]? with
    | none => rw [hz] at hd; cases hd
    | some z =>
      rw [hz] at hd
      cases hd
      obtain ⟨v, h1, h2⟩ := dps_get q hz
      rw [hy vs (s.seq h)] at h1
      cases h1
      have s3 : Same S (hid Bd (upd H T (.tup [.int (i : Nat), y]))) := sB.trans (hid_same s2)
      show Dp K _ (.ref T) (.tuple [.int ((0 + i : Nat) : Int), z])
      rw [Nat.zero_add]
      exact .tup (.of (hid_new own nT)) (.cons (.int _) (.cons (dp_mono s3 _ h2) .nil))

section
variable {X : Cx} {a b c e tg iter elt : Expr} {es ifs : List Expr} {Γ : Gm} {d : PyData} {ds : List PyData} {pos p : Pos} {i j : Int}
theorem evi_list (h : EvP X e Γ (.list ds)) : EvI X tg e Γ ds := fun B F σ H R g k => sI_of (pi_list pe_s) (h B F σ H _ g fun v H' s q => by
  obtain ⟨a, vs, rfl, h1, h2⟩ := dp_list q
  exact ⟨a, rfl, ⟨vs, hid_le.seq h1⟩, k _ H' s (yl_list h1 h2)⟩)
theorem evi_tup (h : EvP X e Γ (.tuple ds)) : EvI X tg e Γ ds := fun B F σ H R g k => sI_of (pi_tup pe_s) (h B F σ H _ g fun v H' s q => by
  obtain ⟨a, vs, rfl, h1, h2⟩ := dp_tuple q
  exact ⟨a, rfl, ⟨vs, same_seqT hid_le h1⟩, k _ H' s (yl_tup h1 h2)⟩)
theorem dps_one' {K : PySem.W.Frag} {H : Hp} {vs : List V} (h : DpAll K H vs [d]) : ∃ v, vs = [v] ∧ Dp K H v d := by
  cases h with
  | cons h1 h2 => cases h2; exact ⟨_, rfl, h1⟩
theorem evi_rng {n : Nat} (hm : X.mg "range" = none) (h : EvP X e Γ (.int (n : Nat))) (hn : n < 2 ^ 62) (hg : Gl X "range" := by rfl) (hs : starEach [e] X.env = [(false, eval e X.env)] := by rfl) (hs1 : starEach [e] X.env = (false, eval e X.env) :: starEach [] X.env := by rfl) :
    EvI X tg (.Call (.Name "range" p) [e] [] pos) Γ (upto n) := fun B F σ H R g k =>
  sI_of (pi_range1 hg hm pa_s hs) (eva_cons h eva_nil hs1 B F σ H _ g fun vs H' s q => by
    obtain ⟨v, rfl, q1⟩ := dps_one' q
    cases q1
    refine ⟨(n : Nat), rfl, by omega, by have : (n : Int) < 2 ^ 62 := by exact_mod_cast hn
                                         exact this, ?_⟩
    rw [Int.toNat_natCast]
    exact k _ H' s yl_rng)
theorem evi_enum {kk : Nat} {tpos : Pos} {elts : List Expr} (hm : X.mg "enumerate" = none) (h : EvP X e Γ (.list ds)) (hg : Gl X "enumerate" := by rfl) (hs : starEach [e] X.env = [(false, eval e X.env)] := by rfl) (hs1 : starEach [e] X.env = (false, eval e X.env) :: starEach [] X.env := by rfl) :
    EvI X (.Tuple elts kk tpos) (.Call (.Name "enumerate" p) [e] [] pos) Γ (ds.zipIdx.map fun p => PyData.tuple [.int (p.2 : Nat), p.1]) := fun B F σ H R g k =>
  sI_of (pi_enum hg hm pa_s hs) (eva_cons h eva_nil hs1 B F σ H _ g fun vs H' s q => by
    obtain ⟨v, rfl, q1⟩ := dps_one' q
    obtain ⟨a, ws, rfl, h1, h2⟩ := dp_list q1
    exact ⟨a, ws, rfl, hid_le.seq h1, k _ H' s (yl_enum h1 h2)⟩)

/-! ### comprehensions -/
theorem GOk.cover {K : PySem.W.Frag} {B : Addr → Prop} {F : Nat → List Addr} {H H' : Hp} {σ : L2.St} {D : Addr} (g : GOk K B F H σ Γ) (s : Same H H') (n : H D = none) (t : H' D ≠ none) : GOk K (also D B) F H' σ Γ := by
  have g1 := g.grow s
  have st : Same (hid (hd B F) H) (hid (hd (also D B) F) H') := fun b o q => by
    obtain ⟨q1, q2⟩ := hid_iff.mp q
    refine hid_iff.mpr ⟨fun z => ?_, s b o q2⟩
    rcases z with (z | z) | z
    · rw [z, n] at q2; cases q2
    · exact q1 (.inl z)
    · exact q1 (.inr z)
  refine ⟨g.ls, g.dj, fun i b h z => ?_, fun b z => ?_, fun i e h => ?_, g.nil⟩
  · rcases z with z | z
    · exact g.own b (.inr ⟨i, h⟩) (by rw [z]; exact n)
    · exact g.out i b h z
  · rcases z with (z | z) | z
    · rw [z]; exact t
    · exact g1.own b (.inl z)
    · exact g1.own b (.inr z)
  · obtain ⟨v, h1, h2⟩ := g.ent i e h
    refine ⟨v, h1, h2.mono st fun b hb => ?_⟩
    cases q : H b with
    | none => exact absurd q (g.own b (.inr ⟨i, hb⟩))
    | some o => exact s b o q
theorem gname_set {K : PySem.W.Frag} {B : Addr → Prop} {F : Nat → List Addr} {H : Hp} {σ : L2.St} {k : Nat} {v : V} {x : PyData} (g : GOk K B F H σ Γ) (hk : nOwn Γ k = true) (h : Dp K (hid (hd B F) H) v x) : GOk K B F H (σ.set k (some v)) (Γ.set k (some (.d x))) := by
  have q := g.set k h
  rw [upF_nil (g.nil k hk)] at q
  exact q
/-- how a target takes an item: what it leaves -/
structure Tgt (K : PySem.W.Frag) (gt : TG) (ks : List Nat) (Γ : Gm) (d : PyData) (Γ' : Gm) : Prop where
  run : ∀ (B : Addr → Prop) F σ H v (Q : L2.St → Hp → Prop), GOk K B F H σ Γ → Dp K (hid (hd B F) H) v d → (∀ σ', wipe σ' ks = wipe σ ks → GOk K B F H σ' Γ' → Q σ' H) → gt v σ H Q
  runW : ∀ (B : Addr → Prop) F σ H v (Q : L2.St → Hp → Prop), GOk K B F H σ Γ → Dp K (hid (hd B F) H) v d → (∀ σ', wipe σ' ks = wipe σ ks → GOk K B F H σ' Γ' → Q σ' H) → gt v (wipe σ ks) H Q
theorem tgt_name {K : PySem.W.Frag} {k : Nat} (hk : nOwn Γ k = true) : Tgt K (gName k) [k] Γ d (Γ.set k (some (.d d))) where
  run := fun B F σ H v Q g h q => q _ (by show (σ.set k (some v)).set k none = σ.set k none; rw [List.set_set]) (gname_set g hk h)
  runW := fun B F σ H v Q g h q => by
    show Q ((σ.set k none).set k (some v)) H
    rw [List.set_set]
    exact q _ (by show (σ.set k (some v)).set k none = σ.set k none; rw [List.set_set]) (gname_set g hk h)
theorem tgt_pair {K : PySem.W.Frag} {k m : Nat} {d1 d2 : PyData} (hk : nOwn Γ k = true) (hm : nOwn Γ m = true) (hkm : k ≠ m) : Tgt K (gTup K 2 (gCons (gName k) (gCons (gName m) gNil))) [k, m] Γ (.tuple [d1, d2]) ((Γ.set k (some (.d d1))).set m (some (.d d2))) where
  run := fun B F σ H v Q g h q => by
    obtain ⟨a, vs, rfl, h1, h2⟩ := dp_tuple h
    cases h2 with
    | cons p1 h2 =>
      cases h2 with
      | cons p2 h2 =>
        cases h2
        refine ⟨a, _, rfl, same_seqT hid_le h1, rfl, _, _, rfl, _, _, rfl, rfl, q _ ?_ (gname_set (gname_set g hk p1) (by rw [nOwn_ne hkm]; exact hm) p2)⟩
        show ((((σ.set k _).set m _).set m none).set k none) = (σ.set m none).set k none
        rw [List.set_set, List.set_comm _ _ hkm, List.set_set]
  runW := fun B F σ H v Q g h q => by
    obtain ⟨a, vs, rfl, h1, h2⟩ := dp_tuple h
    cases h2 with
    | cons p1 h2 =>
      cases h2 with
      | cons p2 h2 =>
        cases h2
        refine ⟨a, _, rfl, same_seqT hid_le h1, rfl, _, _, rfl, _, _, rfl, rfl, ?_⟩
        have e : ∀ x y : V, (((σ.set m none).set k none).set k (some x)).set m (some y) = (σ.set k (some x)).set m (some y) := fun x y => by
          rw [List.set_set, List.set_comm _ _ (Ne.symm hkm), List.set_set]
        show Q ((((σ.set m none).set k none).set k (some _)).set m (some _)) H
        rw [e]
        refine q _ ?_ (gname_set (gname_set g hk p1) (by rw [nOwn_ne hkm]; exact hm) p2)
        show ((((σ.set k _).set m _).set m none).set k none) = (σ.set m none).set k none
        rw [List.set_set, List.set_comm _ _ hkm, List.set_set]
theorem evc_nil : EvC X [] Γ true := fun B F σ H Q g h => sC_of pts_nil (h H (Same.refl _))
theorem evc_one {k : Bool} (h : EvT X e Γ k) : EvC X [e] Γ k := fun B F σ H Q g q => sC_of (pts_one pt_s) (h B F σ H _ g q)
abbrev Blk (X : Cx) (s : Shared) (H : Hp) (scope : Scope) (C : Addr) (cl : List (Str × Addr)) (fp : List Addr) : Cx := X.blk s H scope (compEnvC scope cl C X.env) fp
def sCb (X : Cx) (scope : Scope) (ifs : List Expr) : TT := fun σ H Q => ∀ (s : Shared) (H0 : Hp) (C : Addr) (cl : List (Str × Addr)) (fp : List Addr), sC (Blk X s H0 scope C cl fp) ifs σ H Q
def sEb (X : Cx) (scope : Scope) (e : Expr) : TE := fun σ H Q => ∀ (s : Shared) (H0 : Hp) (C : Addr) (cl : List (Str × Addr)) (fp : List Addr), sE (Blk X s H0 scope C cl fp) e σ H Q
/-- what a comprehension's parts are worth -/
structure Lc (X : Cx) (scope : Scope) (gt : TG) (ks : List Nat) (tg iter : Expr) (ifs : List Expr) (elt : Expr) (Γ : Gm) (ds : List PyData) : Prop where
  run : ∀ (B : Addr → Prop) F σ H Q, GOk X.K B F H σ Γ → (∀ a vs H', Same H H' → H a = none → H' a = some (.lst vs) → DpAll X.K (hid (hd (also a B) F) H') vs ds → Q (.ref a) H') →
    tLc (sI X tg iter) gt (sCb X scope ifs) (sEb X scope elt) ks σ H Q
theorem lc_mk {α : Type} {scope : Scope} {gt : TG} {ks : List Nat} (xs : List α) (enc : α → PyData) (tst : α → Bool) (el : α → PyData) (Γ' : α → Gm) (hi : EvI X tg iter Γ (xs.map enc)) (hl : xs.length ≤ sizeLine)
    (hg : ∀ x ∈ xs, Tgt X.K gt ks Γ (enc x) (Γ' x))
    (ht : ∀ (s : Shared) (H0 : Hp) (C : Addr) (cl : List (Str × Addr)) (fp : List Addr) (x : α), x ∈ xs → EvC (Blk X s H0 scope C cl fp) ifs (Γ' x) (tst x))
    (he : ∀ (s : Shared) (H0 : Hp) (C : Addr) (cl : List (Str × Addr)) (fp : List Addr) (x : α), x ∈ xs → tst x = true → EvP (Blk X s H0 scope C cl fp) elt (Γ' x) (el x)) :
    Lc X scope gt ks tg iter ifs elt Γ ((xs.filter tst).map el) := ⟨fun B F σ H Q g h => by
  refine hi B F σ H _ g fun J H1 s1 Y D hD => ?_
  have hlen : (xs.map enc).length = xs.length := List.length_map ..
  refine ⟨fun i m H2 => m = xs.length - i ∧ i ≤ xs.length ∧ Same H1 H2 ∧ ∃ acc, H2 D = some (.lst acc) ∧ acc.length ≤ i ∧ DpAll X.K (hid (hd (also D B) F) H2) acc (((xs.take i).filter tst).map el),
    ⟨xs.length, by simp, Nat.zero_le _, same_new hD, [], upd_same, Nat.le_refl _, by simpa using DpAll.nil⟩, ?_⟩
  rintro i m H2 ⟨rfl, hi', s2, acc, hacc, hal, hq⟩
  have sS : Same (hid (hd B F) H1) H2 := hid_le.trans s2
  by_cases hlt : i < xs.length
  · refine .inr ⟨Y.go i H2 sS (by rw [hlen]; exact hlt), fun H3 => i + 1 ≤ xs.length ∧ Same H1 H3 ∧ ∃ acc, H3 D = some (.lst acc) ∧ acc.length ≤ i + 1 ∧ DpAll X.K (hid (hd (also D B) F) H3) acc (((xs.take (i + 1)).filter tst).map el),
      fun H' ⟨n1, n2, n3⟩ => ⟨xs.length - (i + 1), by omega, rfl, n1, n2, n3⟩, fun x H3 y => ?_⟩
    have hx : xs[i]? = some xs[i] := List.getElem?_eq_getElem hlt
    have hm : xs[i] ∈ xs := List.getElem_mem hlt
    obtain ⟨s3, yd⟩ := Y.yld i H2 x H3 (enc xs[i]) sS (by rw [List.getElem?_map, hx]; rfl) y
    have own : ∀ b, hd (also D B) F b → H2 b ≠ none := fun b z => by
      rcases z with (z | z) | z
      · rw [z, hacc]; simp
      · exact (g.grow (s1.trans s2)).own b (.inl z)
      · exact (g.grow (s1.trans s2)).own b (.inr z)
    have dx := yd (hd (also D B) F) own fun b o q => by
      obtain ⟨q1, q2⟩ := hid_iff.mp q
      refine hid_iff.mpr ⟨fun z => ?_, s2 b o q2⟩
      rcases z with (z | z) | z
      · rw [z, hD] at q2; cases q2
      · exact q1 (.inl z)
      · exact q1 (.inr z)
    have h3D : H3 D = some (.lst acc) := s3 _ _ hacc
    have gc : GOk X.K (also D B) F H3 σ Γ := g.cover (s1.trans (s2.trans s3)) (s1.free hD) (by rw [h3D]; simp)
    have etk : (xs.take (i + 1)) = xs.take i ++ [xs[i]] := by rw [List.take_add_one, hx]; rfl
    refine (hg _ hm).runW (also D B) F σ H3 x _ gc dx fun σ2 hw gk => ⟨hw, fun s0 H0 C cl fp => ?_⟩
    refine ht s0 H0 C cl fp _ hm (also D B) F σ2 H3 _ gk fun H4 s4 => ?_
    cases htx : tst xs[i] with
    | false =>
      refine iteF ⟨hlt, s2.trans (s3.trans s4), acc, s4 _ _ h3D, Nat.le_succ_of_le hal, ?_⟩
      rw [etk, List.filter_append, List.map_append]
      have e0 : ([xs[i]].filter tst).map el = [] := by simp [htx]
      rw [e0, List.append_nil]
      exact dps_mono (hid_same (s3.trans s4)) _ hq
    | true =>
      refine iteT fun s0 H0 C cl fp => ?_
      refine he s0 H0 C cl fp _ hm htx (also D B) F σ2 H4 _ (gk.grow s4) fun y5 H5 s5 q5 => ?_
      have h5D : H5 D = some (.lst acc) := s5 _ _ (s4 _ _ h3D)
      have sh : ∀ o, Same (hid (hd (also D B) F) H5) (hid (hd (also D B) F) (upd H5 D o)) := fun o b x q => by
        obtain ⟨q1, q2⟩ := hid_iff.mp q
        exact hid_iff.mpr ⟨q1, by rw [upd_ne (fun z => q1 (.inl (.inl z)))]; exact q2⟩
      refine ⟨acc, h5D, by omega, hlt, fun b o q => ?_, acc ++ [y5], upd_same, by simp; omega, ?_⟩
      · have ne : b ≠ D := ne_of_none q hD
        rw [upd_ne ne]
        exact s5 _ _ (s4 _ _ (s3 _ _ (s2 _ _ q)))
      · rw [etk, List.filter_append, List.map_append]
        have e1 : ([xs[i]].filter tst).map el = [el xs[i]] := by simp [htx]
        rw [e1]
        exact dps_app (dps_mono ((hid_same (s3.trans (s4.trans s5))).trans (sh _)) _ hq) (dps_one (dp_mono (sh _) _ q5))
  · have e : i = xs.length := by omega
    subst e
    refine .inl ⟨by rw [← hlen]; exact Y.stop H2 sS, ?_⟩
    rw [List.take_length] at hq
    exact h D acc H2 (s1.trans s2) (s1.free hD) hacc hq⟩
theorem evf_lc {scope : Scope} {own : List (Str × Nat)} {gt : TG} (hc : X.calm = true) (hN : X.N.Nodup) (ok : BlkOk X.N X.env.scope scope own)
    (hg : ∀ (s : Shared) (H : Hp) (C : Addr) (cl : List (Str × Addr)) (fp : List Addr), PG (Blk X s H scope C cl fp) tg gt) (h : Lc X scope gt (own.map (·.2)) tg iter ifs elt Γ ds) (hs : ∀ x, foldedSetIterable iter X.env x = pure x := by intro _; rfl) :
    EvF X (.ListComp elt [⟨tg, iter, ifs, 0⟩] scope pos) Γ ds := fun B F σ H Q g k =>
  sE_of (pe_lc hc hN pi_s ok hg (fun s H C cl fp => (⟨fun pins s' _ _ _ I q => q s H C cl fp pins s' I⟩ : PTs (Blk X s H scope C cl fp) ifs (sCb X scope ifs))) (fun s H C cl fp => (⟨fun pins s' _ _ _ I q => q s H C cl fp pins s' I⟩ : PE (Blk X s H scope C cl fp) elt (sEb X scope elt))) hs) (h.run B F σ H Q g k)
end
end Mt

set_option maxHeartbeats 1000000
namespace Mt
open PySem PySem.Spec PyProof.Rows L2

/-! ### defs that only make new things -/
/-- the promise of such a def: R ds d says that it is worth d at ds -/
def spP (K : PySem.W.Frag) (R : List PyData → PyData → Prop) : Sp := fun vs H Q _ => ∃ ds d, ∃ B : Addr → Prop, R ds d ∧ (∀ b, B b → H b ≠ none) ∧ DpAll K (hid B H) vs ds ∧ ∀ v H', Same H H' → Dp K (hid B H') v d → Q v H'
/-- where a def stands -/
structure At (K : PySem.W.Frag) (mg : Str → Option Value) (x : Str) (ps : List Str) (f : Addr) (fd : FuncData) : Prop where
  mg : mg x = some (.ref f)
  kp : PySem.W.keepIn K (.ref f) = true
  b : Binds K fd ps []
structure FnP (P : Program) (w : World) (K : PySem.W.Frag) (mg : Str → Option Value) (base : Heap) (k : Nat) (x : Str) (ps : List Str) (sp : Sp) : Prop where
  ex : ∃ f fd, At K mg x ps f fd ∧ FnOk P w K mg base CX0 k f fd ps sp
section
variable {X : Cx} {a b c e tg iter elt : Expr} {es ifs : List Expr} {Γ : Gm} {d : PyData} {ds ds' : List PyData} {pos p : Pos} {i j : Int} {x : Str} {k : Nat} {ps : List Str} {R : List PyData → PyData → Prop}
theorem own_of {K : PySem.W.Frag} {B : Addr → Prop} {F : Nat → List Addr} {H H' : Hp} {σ : L2.St} (g : GOk K B F H σ Γ) (s : Same H H') : ∀ b, hd B F b → H' b ≠ none := (g.grow s).own
theorem evp_call (F : FnP X.prog X.w X.K X.mg X.base k x ps (spP X.K R)) (hr : Room k X.A) (hR : R ds d) (ha : EvA X (e :: es) Γ ds) (hg : Gl X x := by rfl) (hdb : (x == ("__debug__" : Str)) = false := by decide)
    (he : starEach (e :: es) X.env = (false, eval e X.env) :: starEach es X.env := by rfl) (hpl : (backTo pos (starEach es X.env)).any (·.1) = false := by rfl) : EvP X (.Call (.Name x p) (e :: es) [] pos) Γ d := fun B F' σ H Q g q => by
  obtain ⟨f, fd, A, G⟩ := F.ex
  refine sE_of (pe_call G hr hg A.mg A.kp A.b .nil pass0 pa_s hdb he hpl) (ha B F' σ H _ g fun vs H1 s1 q1 => ?_)
  show spP X.K R (vs ++ []) H1 Q E0
  rw [List.append_nil]
  exact ⟨ds, d, hd B F', hR, own_of g s1, q1, fun v H2 s2 q2 => q v H2 (s1.trans s2) q2⟩

/-! ### built-ins -/
theorem own_hid {K : PySem.W.Frag} {B : Addr → Prop} {F : Nat → List Addr} {H : Hp} {a : Addr} : Same (hid (fun b => b = a ∨ hd B F b) H) (hid (hd (also a B) F) H) := fun b o q => by
  obtain ⟨q1, q2⟩ := hid_iff.mp q
  exact hid_iff.mpr ⟨fun z => q1 (z.elim (fun z => z.elim .inl fun z => .inr (.inl z)) fun z => .inr (.inr z)), q2⟩
/-- a built-in's call -/
theorem evp_cb {id : String} {r : List V → Hp → VK → Prop} (hc : CallR X (.builtin id) r) (hm : X.mg x = none) (hv : bootBuiltins x = some (.builtin id)) (ha : EvA X (e :: es) Γ ds)
    (hr : ∀ (B : Addr → Prop) vs H (Q : VK), (∀ b, B b → H b ≠ none) → DpAll X.K (hid B H) vs ds → (∀ v H', Same H H' → Dp X.K (hid B H') v d → Q v H') → r vs H Q)
    (hg : Gl X x := by rfl) (hn : x ≠ "__name__" := by decide) (hdb : (x == ("__debug__" : Str)) = false := by decide)
    (he : starEach (e :: es) X.env = (false, eval e X.env) :: starEach es X.env := by rfl) (hpl : (backTo pos (starEach es X.env)).any (·.1) = false := by rfl) : EvP X (.Call (.Name x p) (e :: es) [] pos) Γ d := fun B F σ H Q g q =>
  sE_of (pe_callB hc hg hm hv pa_s hn hdb he hpl) (ha B F σ H _ g fun vs H1 s1 q1 => hr (hd B F) vs H1 Q (own_of g s1) q1 fun v H2 s2 q2 => q v H2 (s1.trans s2) q2)
theorem evp_ct {T : String} {r : List V → Hp → VK → Prop} (hc : CallR X (.type T) r) (hm : X.mg x = none) (hv : bootBuiltins x = some (.type T)) (ha : EvA X (e :: es) Γ ds)
    (hr : ∀ (B : Addr → Prop) vs H (Q : VK), (∀ b, B b → H b ≠ none) → DpAll X.K (hid B H) vs ds → (∀ v H', Same H H' → Dp X.K (hid B H') v d → Q v H') → r vs H Q)
    (hg : Gl X x := by rfl) (hn : x ≠ "__name__" := by decide) (hdb : (x == ("__debug__" : Str)) = false := by decide)
    (he : starEach (e :: es) X.env = (false, eval e X.env) :: starEach es X.env := by rfl) (hpl : (backTo pos (starEach es X.env)).any (·.1) = false := by rfl) : EvP X (.Call (.Name x p) (e :: es) [] pos) Γ d := fun B F σ H Q g q =>
  sE_of (pe_callTy hc hg hm hv pa_s hn hdb he hpl) (ha B F σ H _ g fun vs H1 s1 q1 => hr (hd B F) vs H1 Q (own_of g s1) q1 fun v H2 s2 q2 => q v H2 (s1.trans s2) q2)
/-- .. that makes a new list -/
theorem evf_cb {id : String} {r : List V → Hp → VK → Prop} (hc : CallR X (.builtin id) r) (hm : X.mg x = none) (hv : bootBuiltins x = some (.builtin id)) (ha : EvA X (e :: es) Γ ds)
    (hr : ∀ (S : Hp) vs H (Q : VK), Same S H → DpAll X.K S vs ds → (∀ p ws, H p = none → DpAll X.K S ws ds' → Q (.ref p) (upd H p (.lst ws))) → r vs H Q)
    (hg : Gl X x := by rfl) (hn : x ≠ "__name__" := by decide) (hdb : (x == ("__debug__" : Str)) = false := by decide)
    (he : starEach (e :: es) X.env = (false, eval e X.env) :: starEach es X.env := by rfl) (hpl : (backTo pos (starEach es X.env)).any (·.1) = false := by rfl) : EvF X (.Call (.Name x p) (e :: es) [] pos) Γ ds' := fun B F σ H Q g q =>
  sE_of (pe_callB hc hg hm hv pa_s hn hdb he hpl) (ha B F σ H _ g fun vs H1 s1 q1 => hr _ vs H1 Q hid_le q1 fun p ws hp q2 => evf_laid g q s1 q2 p hp)
theorem evf_ct {T : String} {r : List V → Hp → VK → Prop} (hc : CallR X (.type T) r) (hm : X.mg x = none) (hv : bootBuiltins x = some (.type T)) (ha : EvA X (e :: es) Γ ds)
    (hr : ∀ (S : Hp) vs H (Q : VK), Same S H → DpAll X.K S vs ds → (∀ p ws, H p = none → DpAll X.K S ws ds' → Q (.ref p) (upd H p (.lst ws))) → r vs H Q)
    (hg : Gl X x := by rfl) (hn : x ≠ "__name__" := by decide) (hdb : (x == ("__debug__" : Str)) = false := by decide)
    (he : starEach (e :: es) X.env = (false, eval e X.env) :: starEach es X.env := by rfl) (hpl : (backTo pos (starEach es X.env)).any (·.1) = false := by rfl) : EvF X (.Call (.Name x p) (e :: es) [] pos) Γ ds' := fun B F σ H Q g q =>
  sE_of (pe_callTy hc hg hm hv pa_s hn hdb he hpl) (ha B F σ H _ g fun vs H1 s1 q1 => hr _ vs H1 Q hid_le q1 fun p ws hp q2 => evf_laid g q s1 q2 p hp)
theorem eva_1 (ha : EvP X e Γ d) (hs : starEach [e] X.env = (false, eval e X.env) :: starEach [] X.env := by rfl) : EvA X [e] Γ [d] := eva_cons ha eva_nil hs
theorem evp_lenL (hm : X.mg "len" = none) (ha : EvP X e Γ (.list ds)) (hg : Gl X "len" := by rfl) (hs : starEach [e] X.env = (false, eval e X.env) :: starEach [] X.env := by rfl) : EvP X (.Call (.Name "len" p) [e] [] pos) Γ (.int (ds.length : Nat)) :=
  evp_cb call_len_seq hm PySem.boot_len (eva_1 ha hs) (fun B vs H Q own q k => by
    obtain ⟨v, rfl, q1⟩ := dps_one' q
    obtain ⟨a, ws, rfl, h1, h2⟩ := dp_list q1
    refine ⟨a, ws, rfl, .inl (hid_le.seq h1), ?_⟩
    rw [dps_len h2]
    exact k _ H (Same.refl _) (.int _)) hg (he := hs)
theorem evp_lenT (hm : X.mg "len" = none) (ha : EvP X e Γ (.tuple ds)) (hg : Gl X "len" := by rfl) (hs : starEach [e] X.env = (false, eval e X.env) :: starEach [] X.env := by rfl) : EvP X (.Call (.Name "len" p) [e] [] pos) Γ (.int (ds.length : Nat)) :=
  evp_cb call_len_seq hm PySem.boot_len (eva_1 ha hs) (fun B vs H Q own q k => by
    obtain ⟨v, rfl, q1⟩ := dps_one' q
    obtain ⟨a, ws, rfl, h1, h2⟩ := dp_tuple q1
    refine ⟨a, ws, rfl, .inr (same_seqT hid_le h1), ?_⟩
    rw [dps_len h2]
    exact k _ H (Same.refl _) (.int _)) hg (he := hs)
/-- tuple(a list) -/
theorem evp_tupL (hm : X.mg "tuple" = none) (ha : EvP X e Γ (.list ds)) (hg : Gl X "tuple" := by rfl) (hs : starEach [e] X.env = (false, eval e X.env) :: starEach [] X.env := by rfl) : EvP X (.Call (.Name "tuple" p) [e] [] pos) Γ (.tuple ds) := fun B F σ H Q g k =>
  sE_of (pe_tupleOf hg hm pe_s hs) (ha B F σ H _ g fun v H1 s1 q => by
    obtain ⟨a, ws, rfl, h1, h2⟩ := dp_list q
    exact .inl ⟨a, ws, rfl, hid_le.seq h1, fun l hl =>
      have s2 := same_new (o := .tup ws) hl
      k _ _ (s1.trans s2) (.tup (.of (hid_new (own_of g s1) hl)) (dps_mono (hid_same s2) _ h2))⟩)
/-- list(a list, a tuple) -/
theorem evf_list (hm : X.mg "list" = none) (ha : EvP X e Γ d) (hd : d = .list ds ∨ d = .tuple ds) (hg : Gl X "list" := by rfl) (hs : starEach [e] X.env = (false, eval e X.env) :: starEach [] X.env := by rfl) : EvF X (.Call (.Name "list" p) [e] [] pos) Γ ds :=
  evf_ct call_list_of hm boot_list (eva_1 ha hs) (fun S vs H Q sS q k => by
    obtain ⟨v, rfl, q1⟩ := dps_one' q
    rcases hd with rfl | rfl
    · obtain ⟨a, ws, rfl, h1, h2⟩ := dp_list q1
      exact ⟨a, ws, rfl, .inl (sS.seq h1), fun l hl => k l ws hl h2⟩
    · obtain ⟨a, ws, rfl, h1, h2⟩ := dp_tuple q1
      exact ⟨a, ws, rfl, .inr (same_seqT sS h1), fun l hl => k l ws hl h2⟩) hg (he := hs)
theorem rgV_upto (n : Nat) {K : PySem.W.Frag} {H : Hp} : DpAll K H (rgV 0 (n : Nat)) (upto n) := by
  unfold rgV upto
  rw [show (((n : Nat) : Int) - 0).toNat = n by omega]
  have : ∀ l : List Nat, DpAll K H (l.map fun i => V.int (0 + (i : Nat))) (l.map fun i => PyData.int (i : Nat)) := fun l => by
    induction l with
    | nil => exact .nil
    | cons x r ih =>
      refine .cons ?_ ih
      show Dp K H (V.int (0 + ((x : Nat) : Int))) (PyData.int ((x : Nat) : Int))
      rw [Int.zero_add]
      exact .int _
  exact this _
/-- list(range(n)), tuple(range(n)) -/
theorem evf_listRg {n : Nat} {p2 q2 : Pos} (hc : X.calm = true) (hm : X.mg "list" = none) (hm2 : X.mg "range" = none) (ha : EvP X e Γ (.int (n : Nat))) (hn : n ≤ 16777216) (hg : Gl X "list" := by rfl) (hg2 : Gl X "range" := by rfl)
    (hs : starEach [e] X.env = (false, eval e X.env) :: starEach [] X.env := by rfl) (hs2 : starEach [.Call (.Name "range" p2) [e] [] q2] X.env = (false, eval (.Call (.Name "range" p2) [e] [] q2) X.env) :: starEach [] X.env := by rfl) :
    EvF X (.Call (.Name "list" p) [.Call (.Name "range" p2) [e] [] q2] [] pos) Γ (upto n) := fun B F σ H Q g k =>
  sE_of (pe_listRg hc hg hm (prg_1 hg2 hm2 pe_s hs) hs2) (ha B F σ H _ g fun v H1 s1 q => ⟨(n : Nat), dp_int q, .of_le (by omega) (by omega) (by omega) (by omega), fun l hl => evf_laid g k s1 (rgV_upto n) l hl⟩)
theorem evp_tupRg {n : Nat} {p2 q2 : Pos} (hc : X.calm = true) (hm : X.mg "tuple" = none) (hm2 : X.mg "range" = none) (ha : EvP X e Γ (.int (n : Nat))) (hn : n ≤ 16777216) (hg : Gl X "tuple" := by rfl) (hg2 : Gl X "range" := by rfl)
    (hs : starEach [e] X.env = (false, eval e X.env) :: starEach [] X.env := by rfl) (hs2 : starEach [.Call (.Name "range" p2) [e] [] q2] X.env = (false, eval (.Call (.Name "range" p2) [e] [] q2) X.env) :: starEach [] X.env := by rfl) :
    EvP X (.Call (.Name "tuple" p) [.Call (.Name "range" p2) [e] [] q2] [] pos) Γ (.tuple (upto n)) := fun B F σ H Q g k =>
  sE_of (pe_tupRg hc hg hm (prg_1 hg2 hm2 pe_s hs) hs2) (ha B F σ H _ g fun v H1 s1 q => ⟨(n : Nat), dp_int q, .of_le (by omega) (by omega) (by omega) (by omega), fun l hl =>
      have s2 := same_new (o := .tup _) hl
      k _ _ (s1.trans s2) (.tup (.of (hid_new (own_of g s1) hl)) (rgV_upto n))⟩)
theorem evp_sum {ns : List Int} (hc : X.calm = true) (hm : X.mg "sum" = none) (ha : EvP X e Γ (.list (ns.map .int))) (hg : Gl X "sum" := by rfl) (hs : starEach [e] X.env = (false, eval e X.env) :: starEach [] X.env := by rfl) : EvP X (.Call (.Name "sum" p) [e] [] pos) Γ (.int ns.sum) :=
  evp_cb (cr_sum hc) hm (by decide +kernel) (eva_1 ha hs) (fun B vs H Q own q k => by
    obtain ⟨v, rfl, q1⟩ := dps_one' q
    obtain ⟨a, ws, rfl, h1, h2⟩ := dp_list q1
    rw [dps_ints' h2] at h1
    exact ⟨a, ns, rfl, hid_le.seq h1, k _ H (Same.refl _) (.int _)⟩) hg (he := hs)
theorem evp_any {ns : List Bool} (hc : X.calm = true) (hm : X.mg "any" = none) (ha : EvP X e Γ (.list (ns.map .bool))) (hg : Gl X "any" := by rfl) (hs : starEach [e] X.env = (false, eval e X.env) :: starEach [] X.env := by rfl) : EvP X (.Call (.Name "any" p) [e] [] pos) Γ (.bool (ns.any id)) :=
  evp_cb (cr_any hc) hm (by decide +kernel) (eva_1 ha hs) (fun B vs H Q own q k => by
    obtain ⟨v, rfl, q1⟩ := dps_one' q
    obtain ⟨a, ws, rfl, h1, h2⟩ := dp_list q1
    rw [dps_bls' h2] at h1
    exact ⟨a, ns, rfl, hid_le.seq h1, k _ H (Same.refl _) (.bl _)⟩) hg (he := hs)
theorem evp_all {ns : List Bool} (hc : X.calm = true) (hm : X.mg "all" = none) (ha : EvP X e Γ (.list (ns.map .bool))) (hg : Gl X "all" := by rfl) (hs : starEach [e] X.env = (false, eval e X.env) :: starEach [] X.env := by rfl) : EvP X (.Call (.Name "all" p) [e] [] pos) Γ (.bool (ns.all id)) :=
  evp_cb (cr_all hc) hm (by decide +kernel) (eva_1 ha hs) (fun B vs H Q own q k => by
    obtain ⟨v, rfl, q1⟩ := dps_one' q
    obtain ⟨a, ws, rfl, h1, h2⟩ := dp_list q1
    rw [dps_bls' h2] at h1
    exact ⟨a, ns, rfl, hid_le.seq h1, k _ H (Same.refl _) (.bl _)⟩) hg (he := hs)
theorem evp_intI {i : Int} (hm : X.mg "int" = none) (ha : EvP X e Γ (.int i)) (hg : Gl X "int" := by rfl) (hs : starEach [e] X.env = (false, eval e X.env) :: starEach [] X.env := by rfl) : EvP X (.Call (.Name "int" p) [e] [] pos) Γ (.int i) :=
  evp_ct call_int1 hm (by decide +kernel) (eva_1 ha hs) (fun B vs H Q own q k => by
    obtain ⟨v, rfl, q1⟩ := dps_one' q
    exact .inl ⟨i, by rw [dp_int q1], k _ H (Same.refl _) (.int _)⟩) hg (he := hs)
theorem evp_intB {i : Bool} (hm : X.mg "int" = none) (ha : EvP X e Γ (.bool i)) (hg : Gl X "int" := by rfl) (hs : starEach [e] X.env = (false, eval e X.env) :: starEach [] X.env := by rfl) : EvP X (.Call (.Name "int" p) [e] [] pos) Γ (.int (if i then 1 else 0)) :=
  evp_ct call_int1 hm (by decide +kernel) (eva_1 ha hs) (fun B vs H Q own q k => by
    obtain ⟨v, rfl, q1⟩ := dps_one' q
    exact .inr ⟨i, by rw [dp_bool q1], k _ H (Same.refl _) (.int _)⟩) hg (he := hs)
theorem evp_abs {i : Int} (hm : X.mg "abs" = none) (ha : EvP X e Γ (.int i)) (hg : Gl X "abs" := by rfl) (hs : starEach [e] X.env = (false, eval e X.env) :: starEach [] X.env := by rfl) : EvP X (.Call (.Name "abs" p) [e] [] pos) Γ (.int (if i < 0 then -i else i)) :=
  evp_cb call_abs hm (by decide +kernel) (eva_1 ha hs) (fun B vs H Q own q k => by
    obtain ⟨v, rfl, q1⟩ := dps_one' q
    exact ⟨i, by rw [dp_int q1], k _ H (Same.refl _) (.int _)⟩) hg (he := hs)
/-- sorted(ints) -/
theorem evf_sortI {ns ms : List Int} (hm : X.mg "sorted" = none) (ha : EvP X e Γ (.list (ns.map .int))) (hms : ∀ ks : List Int, ks.Perm ns → ks.Pairwise (· ≤ ·) → ks = ms) (hg : Gl X "sorted" := by rfl) (hs : starEach [e] X.env = (false, eval e X.env) :: starEach [] X.env := by rfl) :
    EvF X (.Call (.Name "sorted" p) [e] [] pos) Γ (ms.map .int) :=
  evf_cb cr_sortedI hm (by decide +kernel) (eva_1 ha hs) (fun S vs H Q sS q k => by
    obtain ⟨v, rfl, q1⟩ := dps_one' q
    obtain ⟨a, ws, rfl, h1, h2⟩ := dp_list q1
    rw [dps_ints' h2] at h1
    refine ⟨a, ns, rfl, sS.seq h1, fun ks p' hp hw hn => ?_⟩
    rw [hms ks hp hw]
    exact k p' _ hn (dps_ints _)) hg (he := hs)
/-- bit_length -/
theorem evp_bitlen {i : Int} {apos : Pos} (ha : EvP X e Γ (.int i)) (hbase : attributeBase e "bit_length" X.env (eval e X.env) = eval e X.env := by rfl) (hline : (apos.endLine == pos.line) = true := by rfl) : EvP X (.Call (.Attribute e "bit_length" apos) [] [] pos) Γ (.int (Builtin.Int.intBits i : Nat)) := fun B F σ H Q g k =>
  sE_of (pe_bits pe_s hbase hline) (ha B F σ H _ g fun v H1 s1 q => ⟨i, dp_int q, k _ H1 s1 (.int _)⟩)
/-- subscripts -/
theorem dps_at {K : PySem.W.Frag} {H : Hp} {vs : List V} {i : Int} (q : DpAll K H vs ds) (h : atI ds i = some d) : ∃ v, atI vs i = some v ∧ Dp K H v d := by
  unfold atI at h ⊢
  rw [dps_len q]
  cases e : ixN ds.length i with
  | none => rw [e] at h; cases h
  | some j =>
    rw [e] at h
    exact dps_get q h
theorem evp_ixL {i : Int} (ha : EvP X a Γ (.list ds)) (hb : EvP X b Γ (.int i)) (h : atI ds i = some d) (hp : PlainIx b := by exact fun _ _ => rfl) : EvP X (.Subscript a b pos) Γ d := fun B F σ H Q g k =>
  sE_of (pe_ix ix_list pe_s pe_s hp) (evp_two ha hb g fun v u H' s q1 q2 => by
    obtain ⟨p, ws, rfl, h1, h2⟩ := dp_list q1
    obtain ⟨w, h3, h4⟩ := dps_at h2 h
    exact ⟨p, ws, i, w, rfl, dp_int q2, hid_le.seq h1, h3, k w H' s h4⟩)
theorem evp_ixT {i : Int} (ha : EvP X a Γ (.tuple ds)) (hb : EvP X b Γ (.int i)) (h : atI ds i = some d) (hp : PlainIx b := by exact fun _ _ => rfl) : EvP X (.Subscript a b pos) Γ d := fun B F σ H Q g k =>
  sE_of (pe_ix ix_tup pe_s pe_s hp) (evp_two ha hb g fun v u H' s q1 q2 => by
    obtain ⟨p, ws, rfl, h1, h2⟩ := dp_tuple q1
    obtain ⟨w, h3, h4⟩ := dps_at h2 h
    exact ⟨p, ws, i, w, rfl, dp_int q2, same_seqT hid_le h1, h3, k w H' s h4⟩)
/-- slices of lists -/
theorem evf_slHi {n : Nat} {p2 : Pos} (ha : EvP X a Γ (.list ds)) (hb : EvP X b Γ (.int (n : Nat))) : EvF X (.Subscript a (.Slice none (some b) none p2) pos) Γ (ds.take n) := fun B F σ H Q g k =>
  sE_of (pe_slice sl_list pe_s po_none (po_some pe_s)) (ha B F σ H _ g fun v H1 s1 q1 => hb B F σ H1 _ (g.grow s1) fun u H2 s2 q2 => by
    obtain ⟨a, ws, rfl, h1, h2⟩ := dp_list q1
    refine ⟨(n : Nat), dp_int q2, a, ws, rfl, s2.seq (hid_le.seq h1), fun l hl => ?_⟩
    have e : cutV ws none (some ((n : Nat) : Int)) = ws.take n := by
      unfold cutV
      rw [HT.sIx_none, HT.sIx_nat, List.drop_zero, Nat.sub_zero, ← List.take_take, List.take_length]
    rw [e]
    exact evf_laid g k (s1.trans s2) (dps_cut n (dps_mono (hid_same s2) _ h2)) l hl)
theorem evf_slLo {n : Nat} {p2 : Pos} (ha : EvP X a Γ (.list ds)) (hb : EvP X b Γ (.int (n : Nat))) : EvF X (.Subscript a (.Slice (some b) none none p2) pos) Γ (ds.drop n) := fun B F σ H Q g k =>
  sE_of (pe_slice sl_list pe_s (po_some pe_s) po_none) (ha B F σ H _ g fun v H1 s1 q1 => hb B F σ H1 _ (g.grow s1) fun u H2 s2 q2 => by
    obtain ⟨a, ws, rfl, h1, h2⟩ := dp_list q1
    refine ⟨(n : Nat), dp_int q2, a, ws, rfl, s2.seq (hid_le.seq h1), fun l hl => ?_⟩
    have e : cutV ws (some ((n : Nat) : Int)) none = ws.drop n := by
      unfold cutV
      rw [HT.sIx_none, HT.sIx_nat]
      by_cases hn : n ≤ ws.length
      · rw [Nat.min_eq_left hn, List.take_of_length_le (by rw [List.length_drop]; omega)]
      · rw [Nat.min_eq_right (by omega), List.drop_of_length_le (Nat.le_refl _), List.drop_of_length_le (by omega)]
        simp
    rw [e]
    exact evf_laid g k (s1.trans s2) (dps_drop n (dps_mono (hid_same s2) _ h2)) l hl)
theorem evf_rev {kk : Nat} {p1 p2 p3 : Pos} (ha : EvP X a Γ (.list ds)) : EvF X (.Subscript a (.Slice none none (some (.UnaryOp .USub (.Constant (.int 1) kk p1) p2)) p3) pos) Γ ds.reverse := fun B F σ H Q g k =>
  sE_of (pe_revL pe_s) (ha B F σ H _ g fun v H1 s1 q1 => by
    obtain ⟨a, ws, rfl, h1, h2⟩ := dp_list q1
    exact ⟨a, ws, rfl, hid_le.seq h1, fun l hl => evf_laid g k s1 (dps_rev h2) l hl⟩)
/-- x in, not in, of ints -/
theorem inV_ints (i : Int) : ∀ ns : List Int, inV (.int i) (ns.map V.int) = decide (i ∈ ns)
  | [] => by simp [inV]
  | n :: r => by
    have ih := inV_ints i r
    unfold inV at ih ⊢
    rw [List.map_cons, List.any_cons, ih]
    by_cases h : n = i
    · subst h
      simp [eqV]
    · have h' : ¬ i = n := fun z => h z.symm
      simp [eqV, h, h']
theorem flat_ints : ∀ ns : List Int, (ns.map V.int).all flatV = true
  | [] => rfl
  | n :: r => by
    rw [List.map_cons, List.all_cons, flat_ints r]
    rfl
theorem evt_notIn {i : Int} {ns : List Int} (ha : EvP X a Γ (.int i)) (hb : EvP X b Γ d) (hd : d = .list (ns.map .int) ∨ d = .tuple (ns.map .int)) (hm : behindInMarks .NotIn b = false := by rfl) : EvT X (.Compare a [.NotIn] [b] pos) Γ (!decide (i ∈ ns)) := fun B F σ H Q g k =>
  sT_of (pt_cmpR op_notIn_seq pe_s pe_s hm) (evp_two ha hb g fun v u H' s q1 q2 => by
    rw [dp_int q1]
    have fin : Q (if true = true then !inV (.int i) (ns.map V.int) else inV (.int i) (ns.map V.int)) H' := by
      rw [if_pos rfl, inV_ints]
      exact k H' s
    rcases hd with rfl | rfl
    · obtain ⟨p, ws, rfl, h1, h2⟩ := dp_list q2
      rw [dps_ints' h2] at h1
      exact ⟨p, _, rfl, .inl (hid_le.seq h1), rfl, flat_ints ns, _, rfl, fin⟩
    · obtain ⟨p, ws, rfl, h1, h2⟩ := dp_tuple q2
      rw [dps_ints' h2] at h1
      exact ⟨p, _, rfl, .inr (same_seqT hid_le h1), rfl, flat_ints ns, _, rfl, fin⟩)
end
end Mt

set_option maxHeartbeats 1000000
namespace Mt
open PySem PySem.Spec PyProof.Rows L2

/-! ### expressions that may draw -/
def Ev (X : Cx) (e : Expr) (Γ : Gm) (P : PyData → Gm → Prop) : Prop := ∀ (B : Addr → Prop) F σ H Q, GOk X.K B F H σ Γ →
  (∀ v H' F' Γ' d, Step F H F' H' → GOk X.K B F' H' σ Γ' → Dp X.K (hid (hd B F') H') v d → P d Γ' → Q v H') → sE X e σ H Q
def EvAe (X : Cx) (es : List Expr) (Γ : Gm) (P : List PyData → Gm → Prop) : Prop := ∀ (B : Addr → Prop) F σ H Q, GOk X.K B F H σ Γ →
  (∀ vs H' F' Γ' ds, Step F H F' H' → GOk X.K B F' H' σ Γ' → DpAll X.K (hid (hd B F') H') vs ds → P ds Γ' → Q vs H') → sA X es σ H Q
/-- tests that may draw -/
def Et (X : Cx) (e : Expr) (Γ : Gm) (P : Bool → Gm → Prop) : Prop := ∀ (B : Addr → Prop) F σ H Q, GOk X.K B F H σ Γ →
  (∀ H' F' Γ' b, Step F H F' H' → GOk X.K B F' H' σ Γ' → P b Γ' → Q b H') → sT X e σ H Q

/-! ### statements -/
/-- what is wanted behind a block: by its next statement, a return's data, break, continue -/
structure Out where
  N : Gm → Prop
  R : PyData → Gm → Prop
  Bk : Gm → Prop := fun _ => False
  C : Gm → Prop := fun _ => False
structure Wants (K : PySem.W.Frag) (B : Addr → Prop) (F : Nat → List Addr) (H : Hp) (O : Out) (D : Ends) : Prop where
  nx : ∀ F' σ' H' Γ', Step F H F' H' → GOk K B F' H' σ' Γ' → O.N Γ' → D.nx σ' H'
  rt : ∀ v F' σ' H' Γ' d, Step F H F' H' → GOk K B F' H' σ' Γ' → Dp K (hid (hd B F') H') v d → O.R d Γ' → D.rt v H'
  bk : ∀ F' σ' H' Γ', Step F H F' H' → GOk K B F' H' σ' Γ' → O.Bk Γ' → D.bk σ' H'
  ct : ∀ F' σ' H' Γ', Step F H F' H' → GOk K B F' H' σ' Γ' → O.C Γ' → D.ct σ' H'
theorem Wants.step {K : PySem.W.Frag} {B : Addr → Prop} {F F1 : Nat → List Addr} {H H1 : Hp} {O : Out} {D : Ends} (w : Wants K B F H O D) (s : Step F H F1 H1) : Wants K B F1 H1 O D :=
  ⟨fun F' σ' H' Γ' t => w.nx F' σ' H' Γ' (s.trans t), fun v F' σ' H' Γ' d t => w.rt v F' σ' H' Γ' d (s.trans t), fun F' σ' H' Γ' t => w.bk F' σ' H' Γ' (s.trans t), fun F' σ' H' Γ' t => w.ct F' σ' H' Γ' (s.trans t)⟩
def E1 (X : Cx) (st : Stmt) (Γ : Gm) (O : Out) : Prop := ∀ (B : Addr → Prop) F σ H D, GOk X.K B F H σ Γ → Wants X.K B F H O D → sS X st D σ H
def Ex (X : Cx) (sts : List Stmt) (Γ : Gm) (O : Out) : Prop := ∀ (B : Addr → Prop) F σ H D, GOk X.K B F H σ Γ → Wants X.K B F H O D → sB X sts D σ H

section
variable {X : Cx} {a b c e tg iter elt : Expr} {es ifs : List Expr} {st : Stmt} {sts rest : List Stmt} {Γ : Gm} {d : PyData} {ds ds' : List PyData} {pos p : Pos} {x : Str} {O : Out} {P : PyData → Gm → Prop}
theorem ev_p (h : EvP X e Γ d) (k : P d Γ) : Ev X e Γ P := fun B F σ H Q g q => h B F σ H _ g fun v H' s r => q v H' F Γ d (Step.same s) (g.grow s) r k
theorem et_p {k : Bool} {P : Bool → Gm → Prop} (h : EvT X e Γ k) (q : P k Γ) : Et X e Γ P := fun B F σ H Q g r => h B F σ H _ g fun H' s => r H' F Γ k (Step.same s) (g.grow s) q
theorem ev_imp {P' : PyData → Gm → Prop} (h : Ev X e Γ P) (k : ∀ d Γ', P d Γ' → P' d Γ') : Ev X e Γ P' := fun B F σ H Q g q => h B F σ H _ g fun v H' F' Γ' d s g' r z => q v H' F' Γ' d s g' r (k _ _ z)
/-- two in a row, the first one's data stands on -/
theorem ev_two {R : V → V → Hp → Prop} {B : Addr → Prop} {F : Nat → List Addr} {σ : L2.St} {H : Hp} (g : GOk X.K B F H σ Γ) {P2 : PyData → PyData → Gm → Prop} (ha : Ev X a Γ fun d1 Γ1 => Ev X b Γ1 (P2 d1))
    (k : ∀ v u H' F' Γ' d1 d2, Step F H F' H' → GOk X.K B F' H' σ Γ' → Dp X.K (hid (hd B F') H') v d1 → Dp X.K (hid (hd B F') H') u d2 → P2 d1 d2 Γ' → R v u H') : sE X a σ H fun v H1 => sE X b σ H1 fun u H2 => R v u H2 :=
  ha B F σ H _ g fun v H1 F1 Γ1 d1 s1 g1 q1 hb => hb B F1 σ H1 _ g1 fun u H2 F2 Γ2 d2 s2 g2 q2 z => k v u H2 F2 Γ2 d1 d2 (s1.trans s2) g2 (dp_mono s2.stab _ q1) q2 z
theorem ev_bin0 {op : Operator} {f : Int → Int → Int} (ho : OpR X (binaryOp op) (rI0 fun i j => .int (f i j))) (ha : Ev X a Γ fun d1 Γ1 => Ev X b Γ1 fun d2 Γ2 => ∃ i j, d1 = .int i ∧ d2 = .int j ∧ P (.int (f i j)) Γ2) : Ev X (.BinOp a op b pos) Γ P := fun B F σ H Q g k =>
  sE_of (pe_op ho pe_s pe_s) (ev_two g ha fun v u H' F' Γ' d1 d2 s g' q1 q2 ⟨i, j, e1, e2, z⟩ => by
    subst e1 e2
    exact ⟨i, j, dp_int q1, dp_int q2, k _ H' F' Γ' _ s g' (.int _) z⟩)
theorem ev_bin {op : Operator} {C : Int → Int → Prop} {f : Int → Int → Int} (ho : OpR X (binaryOp op) (rI C fun i j => .int (f i j))) (ha : Ev X a Γ fun d1 Γ1 => Ev X b Γ1 fun d2 Γ2 => ∃ i j, d1 = .int i ∧ d2 = .int j ∧ C i j ∧ P (.int (f i j)) Γ2) : Ev X (.BinOp a op b pos) Γ P := fun B F σ H Q g k =>
  sE_of (pe_op ho pe_s pe_s) (ev_two g ha fun v u H' F' Γ' d1 d2 s g' q1 q2 ⟨i, j, e1, e2, hc, z⟩ => by
    subst e1 e2
    exact ⟨i, j, dp_int q1, dp_int q2, hc, k _ H' F' Γ' _ s g' (.int _) z⟩)
theorem et_cmp {P : Bool → Gm → Prop} {op : CmpOp} {f : Int → Int → Bool} (ho : OpR X (compareOp op) (rI0 fun i j => .bl (f i j))) (ha : Ev X a Γ fun d1 Γ1 => Ev X b Γ1 fun d2 Γ2 => ∃ i j, d1 = .int i ∧ d2 = .int j ∧ P (f i j) Γ2) (hm : behindInMarks op b = false := by exact nomark _) : Et X (.Compare a [op] [b] pos) Γ P := fun B F σ H Q g k =>
  sT_of (pt_cmpR ho pe_s pe_s hm) (ev_two g ha fun v u H' F' Γ' d1 d2 s g' q1 q2 ⟨i, j, e1, e2, z⟩ => by
    subst e1 e2
    exact ⟨i, j, dp_int q1, dp_int q2, _, rfl, k H' F' Γ' _ s g' z⟩)
theorem ev_ixL (ha : Ev X a Γ fun d1 Γ1 => Ev X b Γ1 fun d2 Γ2 => ∃ ds i d, d1 = .list ds ∧ d2 = .int i ∧ atI ds i = some d ∧ P d Γ2) (hp : PlainIx b := by exact fun _ _ => rfl) : Ev X (.Subscript a b pos) Γ P := fun B F σ H Q g k =>
  sE_of (pe_ix ix_list pe_s pe_s hp) (ev_two g ha fun v u H' F' Γ' d1 d2 s g' q1 q2 ⟨ds, i, d, e1, e2, h, z⟩ => by
    subst e1 e2
    obtain ⟨p, ws, rfl, h1, h2⟩ := dp_list q1
    obtain ⟨w, h3, h4⟩ := dps_at h2 h
    exact ⟨p, ws, i, w, rfl, dp_int q2, hid_le.seq h1, h3, k w H' F' Γ' d s g' h4 z⟩)
theorem ev_if {k : Bool} (hc : EvT X c Γ k) (ha : k = true → Ev X a Γ P) (hb : k = false → Ev X b Γ P) : Ev X (.IfExp c a b pos) Γ P := fun B F σ H Q g h =>
  sE_of (pe_ifExp pt_s pe_s pe_s) (hc B F σ H _ g fun H1 s1 => by
    cases k with
    | true => exact iteT (ha rfl B F σ H1 _ (g.grow s1) fun v H2 F2 Γ2 d s2 g2 q z => h v H2 F2 Γ2 d ((Step.same s1).trans s2) g2 q z)
    | false => exact iteF (hb rfl B F σ H1 _ (g.grow s1) fun v H2 F2 Γ2 d s2 g2 q z => h v H2 F2 Γ2 d ((Step.same s1).trans s2) g2 q z))
theorem evae_nil {P : List PyData → Gm → Prop} (h : P [] Γ) : EvAe X [] Γ P := fun B F σ H Q g k => sA_of pa_nil (k [] H F Γ [] Step.refl g .nil h)
theorem evae_cons {P : List PyData → Gm → Prop} (ha : Ev X e Γ fun d Γ1 => EvAe X es Γ1 fun ds Γ2 => P (d :: ds) Γ2) (hs : starEach (e :: es) X.env = (false, eval e X.env) :: starEach es X.env := by rfl) : EvAe X (e :: es) Γ P := fun B F σ H Q g k =>
  sA_of (pa_cons pe_s pa_s hs) (ha B F σ H _ g fun v H1 F1 Γ1 d s1 g1 q1 hr => hr B F1 σ H1 _ g1 fun vs H2 F2 Γ2 ds s2 g2 q2 z => k _ H2 F2 Γ2 _ (s1.trans s2) g2 (.cons (dp_mono s2.stab _ q1) q2) z)
theorem evae_p {P : List PyData → Gm → Prop} (h : EvA X es Γ ds) (k : P ds Γ) : EvAe X es Γ P := fun B F σ H Q g q => h B F σ H _ g fun v H' s r => q v H' F Γ ds (Step.same s) (g.grow s) r k
theorem ev_tup {n : Nat} (ha : EvAe X es Γ fun ds Γ' => ds.length ≤ sizeLine ∧ P (.tuple ds) Γ') : Ev X (.Tuple es n pos) Γ P := fun B F σ H Q g h =>
  sE_of (pe_tup pa_s) (ha B F σ H _ g fun vs H1 F1 Γ1 ds s1 g1 q ⟨hl, z⟩ => ⟨by rw [dps_len q]; exact hl, fun p hp =>
    have s2 := same_new (o := .tup vs) hp
    h _ _ F1 Γ1 _ (s1.trans (Step.same s2)) (g1.grow s2) (.tup (.of (hid_new (own_of g1 (Same.refl _)) hp)) (dps_mono (hid_same s2) _ q)) z⟩)
theorem ev_lst (ha : EvAe X es Γ fun ds Γ' => ds.length ≤ sizeLine ∧ P (.list ds) Γ') : Ev X (.List es pos) Γ P := fun B F σ H Q g h =>
  sE_of (pe_lst pa_s) (ha B F σ H _ g fun vs H1 F1 Γ1 ds s1 g1 q ⟨hl, z⟩ => ⟨by rw [dps_len q]; exact hl, fun p hp =>
    have s2 := same_new (o := .lst vs) hp
    h _ _ F1 Γ1 _ (s1.trans (Step.same s2)) (g1.grow s2) (.lst (.of (hid_new (own_of g1 (Same.refl _)) hp)) (dps_mono (hid_same s2) _ q)) z⟩)

/-! ### a list of one's own, looked at -/
section
variable {i : Nat} {xs : List PyData}
theorem evp_frz (i : Nat) (hi : Γ[i]? = some (some (.l xs))) (sc : scal d = true) (h : EvP X e (Γ.set i (some (.d (.list xs)))) d) : EvP X e Γ d := fun B F σ H Q g k => h B _ σ H _ (g.freeze hi) fun v H' s q => k v H' s (dp_scal sc q)
theorem evt_frz {k : Bool} (i : Nat) (hi : Γ[i]? = some (some (.l xs))) (h : EvT X e (Γ.set i (some (.d (.list xs)))) k) : EvT X e Γ k := fun B F σ H Q g q => h B _ σ H _ (g.freeze hi) q
theorem evf_frz (i : Nat) (hi : Γ[i]? = some (some (.l xs))) (sc : ∀ d ∈ ds, scal d = true) (h : EvF X e (Γ.set i (some (.d (.list xs)))) ds) : EvF X e Γ ds := fun B F σ H Q g k => h B _ σ H _ (g.freeze hi) fun a vs H' s n e' q => k a vs H' s n e' (dps_scal sc q)
end

/-! ### blocks -/
theorem ex_nil (h : O.N Γ) : Ex X [] Γ O := fun B F σ H D g w => sB_of pss_nil (w.nx F σ H Γ Step.refl g h)
theorem ex_cons (h : E1 X st Γ { O with N := fun Γ' => Ex X rest Γ' O }) : Ex X (st :: rest) Γ O := fun B F σ H D g w =>
  sB_of (pss_cons ps_s pb_s) (h B F σ H { D with nx := fun σ' H' => sB X rest D σ' H' } g ⟨fun F' σ' H' Γ' s g' q => q B F' σ' H' D g' (w.step s), w.rt, w.bk, w.ct⟩)
theorem ex_one (h : E1 X st Γ O) : Ex X [st] Γ O := fun B F σ H D g w => sB_of (pss_one ps_s) (h B F σ H D g w)
theorem ex_imp {O' : Out} (h : Ex X sts Γ O) (hN : ∀ Γ', O.N Γ' → O'.N Γ') (hR : ∀ d Γ', O.R d Γ' → O'.R d Γ') (hB : ∀ Γ', O.Bk Γ' → O'.Bk Γ') (hC : ∀ Γ', O.C Γ' → O'.C Γ') : Ex X sts Γ O' := fun B F σ H D g w =>
  h B F σ H D g ⟨fun F' σ' H' Γ' s g' q => w.nx F' σ' H' Γ' s g' (hN _ q), fun v F' σ' H' Γ' d s g' r q => w.rt v F' σ' H' Γ' d s g' r (hR _ _ q), fun F' σ' H' Γ' s g' q => w.bk F' σ' H' Γ' s g' (hB _ q), fun F' σ' H' Γ' s g' q => w.ct F' σ' H' Γ' s g' (hC _ q)⟩
theorem ex_frz {xs : List PyData} (i : Nat) (hi : Γ[i]? = some (some (.l xs))) (h : Ex X sts (Γ.set i (some (.d (.list xs)))) O) : Ex X sts Γ O := fun B F σ H D g w => h B _ σ H D (g.freeze hi) (w.step step_drop)
theorem e1_frz {xs : List PyData} (i : Nat) (hi : Γ[i]? = some (some (.l xs))) (h : E1 X st (Γ.set i (some (.d (.list xs)))) O) : E1 X st Γ O := fun B F σ H D g w => h B _ σ H D (g.freeze hi) (w.step step_drop)
/-- x = e -/
theorem e1_set (i : Nat) {p' : Pos} (he : Ev X e Γ fun d Γ' => O.N (Γ'.set i (some (.d d)))) (hN : X.N.Nodup) (hi : X.N[i]? = some x := by rfl) (hx : Loc X.env.scope x := by first | exact .inl rfl | exact .inr rfl)
    (hs : swapsWith e (some (.Name x p')) pos.line X.env = pure false := by rfl) (hf : X.fn x = true ∨ X.env.scope.names.lookup x = some .local := by first | exact .inl rfl | exact .inr rfl) : E1 X (.Assign [.Name x p'] e pos) Γ O := fun B F σ H D g w =>
  sS_of (ps_set hN hi hx pe_s hs hf) (he B F σ H _ g fun v H1 F1 Γ1 d s1 g1 q z => w.nx _ _ H1 _ (s1.trans step_drop) (g1.set i q) z)
/-- x = a new list, x's own -/
theorem e1_setF (i : Nat) {p' : Pos} (he : EvF X e Γ ds) (hl : i < Γ.length) (z : O.N (Γ.set i (some (.l ds)))) (hN : X.N.Nodup) (hi : X.N[i]? = some x := by rfl) (hx : Loc X.env.scope x := by first | exact .inl rfl | exact .inr rfl)
    (hs : swapsWith e (some (.Name x p')) pos.line X.env = pure false := by rfl) (hf : X.fn x = true ∨ X.env.scope.names.lookup x = some .local := by first | exact .inl rfl | exact .inr rfl) : E1 X (.Assign [.Name x p'] e pos) Γ O := fun B F σ H D g w =>
  sS_of (ps_set hN hi hx pe_s hs hf) (he B F σ H _ g fun a vs H1 s1 n h1 q => by
    have g1 : GOk X.K (also a B) F H1 σ Γ := g.cover s1 n (by rw [h1]; simp)
    refine w.nx _ _ H1 _ ⟨fun b o h _ => s1 b o h, fun j b h => ?_, fun b h => ?_⟩ (g1.setL i hl (fun z => g.own a (.inl z) n) h1 q) z
    · rcases upF_mem h with ⟨_, z⟩ | ⟨_, z⟩
      · exact .inr (by rw [show b = a by simpa using z]; exact n)
      · exact .inl ⟨j, z⟩
    · cases r : H b with
      | none => exact absurd r h
      | some o => rw [s1 b o r]; simp)
/-- x = [.. for ..], x a local, on one line -/
theorem e1_setLc (i : Nat) {p' : Pos} {scope : Scope} {own : List (Str × Nat)} {gt : TG} (z : O.N (Γ.set i (some (.d (.list ds))))) (hc : X.calm = true) (hN : X.N.Nodup) (hsw : swapsWith (.ListComp elt [⟨tg, iter, ifs, 0⟩] scope p) (some (.Name x p')) pos.line X.env = pure true) (ok : BlkOk X.N X.env.scope scope own)
    (hg : ∀ (s : Shared) (H : Hp) (C : Addr) (cl : List (Str × Addr)) (fp : List Addr), PG (Blk X s H scope C cl fp) tg gt) (h : Lc X scope gt (own.map (·.2)) tg iter ifs elt Γ ds)
    (hi : X.N[i]? = some x := by rfl) (hx : X.env.scope.names.lookup x = some .local := by rfl) (hs : ∀ x, foldedSetIterable iter X.env x = pure x := by intro _; rfl) :
    E1 X (.Assign [.Name x p'] (.ListComp elt [⟨tg, iter, ifs, 0⟩] scope p) pos) Γ O := fun B F σ H D g w =>
  sS_of (ps_setLc hc hN hi hx hsw pi_s ok hg (fun s H C cl fp => (⟨fun pins s' _ _ _ I q => q s H C cl fp pins s' I⟩ : PTs (Blk X s H scope C cl fp) ifs (sCb X scope ifs))) (fun s H C cl fp => (⟨fun pins s' _ _ _ I q => q s H C cl fp pins s' I⟩ : PE (Blk X s H scope C cl fp) elt (sEb X scope elt))) hs)
    (h.run B F σ H _ g fun a vs H1 s1 n h1 q => by
      have na : ¬ hd B F a := fun z => g.own a z n
      have q2 : Dp X.K (hid (hd B F) H1) (.ref a) (.list ds) := .lst (.of (hid_iff.mpr ⟨na, h1⟩)) (dps_mono (fun b o z => by
        obtain ⟨z1, z2⟩ := hid_iff.mp z
        exact hid_iff.mpr ⟨fun w => z1 (w.elim (fun w => .inl (.inr w)) .inr), z2⟩) _ q)
      exact w.nx _ _ H1 _ ((Step.same s1).trans step_drop) ((g.grow s1).set i q2) z)
theorem e1_expr {P : PyData → Gm → Prop} (he : Ev X e Γ fun _ Γ' => O.N Γ') (hs : swapsWith e none pos.line X.env = pure false := by rfl) : E1 X (.Expr e pos) Γ O := fun B F σ H D g w =>
  sS_of (ps_expr pe_s hs) (he B F σ H _ g fun v H1 F1 Γ1 d s1 g1 q z => w.nx F1 σ H1 Γ1 s1 g1 z)
theorem e1_ret (he : Ev X e Γ O.R) : E1 X (.Return (some e) pos) Γ O := fun B F σ H D g w =>
  sS_of (ps_ret pe_s) (he B F σ H _ g fun v H1 F1 Γ1 d s1 g1 q z => w.rt v F1 σ H1 Γ1 d s1 g1 q z)
theorem e1_cont (h : O.C Γ) : E1 X (.Continue pos) Γ O := fun B F σ H D g w => sS_of ps_continue (w.ct F σ H Γ Step.refl g h)
theorem e1_ifE {t f : List Stmt} (hc : Et X c Γ fun b Γ' => if b = true then Ex X t Γ' O else Ex X f Γ' O) : E1 X (.If c t f pos) Γ O := fun B F σ H D g w =>
  sS_of (ps_if pt_s pb_s pb_s) (hc B F σ H _ g fun H1 F1 Γ1 b s1 g1 z => by
    cases b with
    | true => exact iteT (z B F1 σ H1 D g1 (w.step s1))
    | false => exact iteF (z B F1 σ H1 D g1 (w.step s1)))
theorem e1_if {t f : List Stmt} {k : Bool} (hc : EvT X c Γ k) (ht : k = true → Ex X t Γ O) (hf : k = false → Ex X f Γ O) : E1 X (.If c t f pos) Γ O := e1_ifE (et_p hc (by
    cases k with
    | true => exact iteT (ht rfl)
    | false => exact iteF (hf rfl)))
/-- xs.append(e), xs a list of one's own -/
theorem e1_app (i : Nat) {xs : List PyData} {px apos : Pos} (he : EvP X e Γ d) (hi : Γ[i]? = some (some (.l xs))) (hl : xs.length < sizeLine) (z : O.N (Γ.set i (some (.l (xs ++ [d]))))) (hN : X.N[i]? = some x := by rfl)
    (hv : Vis X.env.scope x := by first | exact Or.inl rfl | exact Or.inr (Or.inl rfl) | exact Or.inr (Or.inr rfl)) (hd1 : (x == ("__debug__" : Str)) = false := by decide) (hcd : (x == ("__classdict__" : Str)) = false := by decide)
    (hbase : attributeBase (.Name x px) "append" X.env (eval (.Name x px) X.env) = eval (.Name x px) X.env := by rfl)
    (hfew : ((backTo p (starEach [e] X.env)).all (fun x => !x.1) && (backToKw p (keywordEach [] X.env)).all (fun x => x.1.isSome) && decide (([e] : List Expr).length + ([] : List Keyword).length + (if ([] : List Keyword).isEmpty then 0 else 1) < 30)) = true := by rfl)
    (hline : (apos.endLine == p.line) = true := by rfl) (hs1 : starEach [e] X.env = (false, eval e X.env) :: starEach [] X.env := by rfl) (hpl : (backTo p (starEach [] X.env)).any (·.1) = false := by rfl)
    (hs : swapsWith (.Call (.Attribute (.Name x px) "append" apos) [e] [] p) none pos.line X.env = pure false := by rfl) :
    E1 X (.Expr (.Call (.Attribute (.Name x px) "append" apos) [e] [] p) pos) Γ O := fun B F σ H D g w => by
  have R : PE X (.Call (.Attribute (.Name x px) "append" apos) [e] [] p) _ := pe_bm PySem.F.plainAttrs_list PySem.F.slot_list_append PySem.F.type_list_append mt_append (pe_var hN hv hd1 hcd) (pa_s (es := [e])) hbase hfew hline hs1 hpl
  refine sS_of (ps_expr R hs) ?_
  obtain ⟨a, vs, h1, h2, h3, h4, up⟩ := g.setC (ys := xs ++ [d]) hi
  refine ⟨.ref a, h1, .inl ⟨rfl, _, .inl (.inl h3)⟩, ?_⟩
  refine eva_1 he hs1 B F σ H _ g fun us H1 s1 q => ?_
  obtain ⟨v, rfl, q1⟩ := dps_one' q
  obtain ⟨a', vs', h1', h2', h3', h4', up'⟩ := (g.grow s1).setC (ys := xs ++ [d]) hi
  rw [h1] at h1'
  cases h1'
  obtain ⟨u1, u2⟩ := up' (vs' ++ [v]) (dps_app h4' (dps_one q1))
  exact ⟨a, vs', v, rfl, rfl, h3', by rw [dps_len h4']; exact hl, w.nx F σ _ _ ((Step.same s1).trans u1) u2 z⟩
end
end Mt

set_option maxHeartbeats 1000000
namespace Mt
open PySem PySem.Spec PyProof.Rows L2
section
variable {X : Cx} {a b c e tg iter elt : Expr} {es ifs : List Expr} {st : Stmt} {sts rest body : List Stmt} {Γ : Gm} {d : PyData} {ds ds' : List PyData} {pos p : Pos} {x y : Str} {O : Out} {P : PyData → Gm → Prop}

/-! ### for -/
/-- a target's taking, in a frame -/
theorem tgt_mono {K : PySem.W.Frag} {gt : TG} {ks : List Nat} {Γ' : Gm} (h : Tgt K gt ks Γ d Γ') : Tgt K gt ks Γ d Γ' := h
/-- the walk's data, once it has begun: J over the whole loop -/
theorem e1_forE {α : Type} {gt : TG} {ks : List Nat} (xs : List α) (enc : α → PyData) (I : Nat → Gm → Prop) (T : Gm → α → Gm) {Pi : Gm → Prop}
    (hi : ∀ (B : Addr → Prop) F σ H R, GOk X.K B F H σ Γ → (∀ J H' F' Γ', Step F H F' H' → GOk X.K B F' H' σ Γ' → Yl X.K (hid (hd B F') H') J (xs.map enc) → I 0 Γ' → R J H') → sI X tg iter σ H R)
    (hg : ∀ Γ' i, I i Γ' → ∀ x, xs[i]? = some x → Tgt X.K gt ks Γ' (enc x) (T Γ' x)) (hpg : PG X tg gt)
    (hb : ∀ i x Γ', xs[i]? = some x → I i Γ' → Ex X body (T Γ' x) { N := I (i + 1), R := O.R, Bk := O.N, C := I (i + 1) })
    (he : ∀ Γ', I xs.length Γ' → O.N Γ') (hp : PassesOwn (model X.prog X.w) X.A X.env X.xe) (hc : X.calm = true)
    (hs : ∀ x, foldedSetIterable iter X.env x = pure x := by intro _; rfl) : E1 X (.For tg iter body [] pos) Γ O := fun B F σ H D g w => by
  refine sS_of (ps_for hp hc pi_s hpg pb_s hs) (hi B F σ H _ g fun J H1 F1 Γ1 s1 g1 Y i0 => ?_)
  have hlen : (xs.map enc).length = xs.length := List.length_map ..
  refine ⟨fun i m σ' H' => m = xs.length - i ∧ i ≤ xs.length ∧ ∃ F' Γ', Step F1 H1 F' H' ∧ GOk X.K B F' H' σ' Γ' ∧ I i Γ', ⟨xs.length, by simp, Nat.zero_le _, F1, Γ1, Step.refl, g1, i0⟩, ?_⟩
  rintro i m σ2 H2 ⟨rfl, hi', F2, Γ2, s2, g2, i2⟩
  have sS : Same (hid (hd B F1) H1) (hid (hd B F2) H2) := s2.stab
  by_cases hlt : i < xs.length
  · have hx : xs[i]? = some xs[i] := List.getElem?_eq_getElem hlt
    refine .inr ⟨Y.go i H2 (sS.trans hid_le) (by rw [hlen]; exact hlt), fun σ' H' => i + 1 ≤ xs.length ∧ ∃ F' Γ', Step F1 H1 F' H' ∧ GOk X.K B F' H' σ' Γ' ∧ I (i + 1) Γ', fun σ' H' ⟨n1, n2⟩ => ⟨xs.length - (i + 1), by omega, rfl, n1, n2⟩, fun v H3 yv => ?_⟩
    obtain ⟨s3, yd⟩ := Y.yld i H2 v H3 (enc xs[i]) (sS.trans hid_le) (by rw [List.getElem?_map, hx]; rfl) yv
    have dx := yd (hd B F2) g2.own sS
    refine (hg Γ2 i i2 _ hx).run B F2 σ2 H3 v _ (g2.grow s3) dx fun σ3 _ gk => ?_
    have st3 : Step F1 H1 F2 H3 := s2.trans (Step.same s3)
    refine hb i _ Γ2 hx i2 B F2 σ3 H3 _ gk ⟨fun F' σ' H' Γ' s g' q => ⟨hlt, F', Γ', st3.trans s, g', q⟩, fun v F' σ' H' Γ' d s g' r q => w.rt v F' σ' H' Γ' d (s1.trans (st3.trans s)) g' r q,
      fun F' σ' H' Γ' s g' q => w.nx F' σ' H' Γ' (s1.trans (st3.trans s)) g' q, fun F' σ' H' Γ' s g' q => ⟨hlt, F', Γ', st3.trans s, g', q⟩⟩
  · have e : i = xs.length := by omega
    subst e
    exact .inl ⟨by rw [← hlen]; exact Y.stop H2 (sS.trans hid_le), w.nx F2 σ2 H2 Γ2 (s1.trans s2) g2 (he Γ2 i2)⟩
theorem evi_e {Pi : Gm → Prop} (h : EvI X tg iter Γ ds) (i0 : Pi Γ) : ∀ (B : Addr → Prop) F σ H R, GOk X.K B F H σ Γ → (∀ J H' F' Γ', Step F H F' H' → GOk X.K B F' H' σ Γ' → Yl X.K (hid (hd B F') H') J ds → Pi Γ' → R J H') → sI X tg iter σ H R := fun B F σ H R g k =>
  h B F σ H R g fun J H' s Y => k J H' F Γ (Step.same s) (g.grow s) Y i0
/-- for x in e: body; e makes new things alone, x a name -/
theorem e1_for {α : Type} (k : Nat) {px : Pos} (xs : List α) (enc : α → PyData) (I : Nat → Gm → Prop) (hi : EvI X (.Name x px) iter Γ (xs.map enc)) (i0 : I 0 Γ)
    (hk : ∀ Γ' i, I i Γ' → nOwn Γ' k = true)
    (hb : ∀ i x Γ', xs[i]? = some x → I i Γ' → Ex X body (Γ'.set k (some (.d (enc x)))) { N := I (i + 1), R := O.R, Bk := O.N, C := I (i + 1) })
    (he : ∀ Γ', I xs.length Γ' → O.N Γ') (hp : PassesOwn (model X.prog X.w) X.A X.env X.xe) (hc : X.calm = true) (hN : X.N.Nodup) (hi2 : X.N[k]? = some x := by rfl) (hx : Loc X.env.scope x := by first | exact .inl rfl | exact .inr rfl)
    (hf : X.fn x = true ∨ X.env.scope.names.lookup x = some .local := by first | exact .inl rfl | exact .inr rfl)
    (hs : ∀ x, foldedSetIterable iter X.env x = pure x := by intro _; rfl) : E1 X (.For (.Name x px) iter body [] pos) Γ O :=
  e1_forE (gt := gName k) (ks := [k]) (Pi := fun _ => True) xs enc I (fun Γ' x => Γ'.set k (some (.d (enc x)))) (evi_e hi i0) (fun Γ' i h x _ => tgt_name (hk Γ' i h)) (pg_name hN hi2 hx hf) hb he hp hc hs
/-- for x, y in e: body -/
theorem e1_for2 {α : Type} (k m : Nat) {px py pt : Pos} {kt : Nat} (xs : List α) (e1 e2 : α → PyData) (I : Nat → Gm → Prop) (hi : EvI X (.Tuple [.Name x px, .Name y py] kt pt) iter Γ (xs.map fun z => PyData.tuple [e1 z, e2 z])) (i0 : I 0 Γ)
    (hk : ∀ Γ' i, I i Γ' → nOwn Γ' k = true ∧ nOwn Γ' m = true) (hkm : k ≠ m)
    (hb : ∀ i x Γ', xs[i]? = some x → I i Γ' → Ex X body ((Γ'.set k (some (.d (e1 x)))).set m (some (.d (e2 x)))) { N := I (i + 1), R := O.R, Bk := O.N, C := I (i + 1) })
    (he : ∀ Γ', I xs.length Γ' → O.N Γ') (hp : PassesOwn (model X.prog X.w) X.A X.env X.xe) (hc : X.calm = true) (hN : X.N.Nodup) (hi2 : X.N[k]? = some x := by rfl) (hi3 : X.N[m]? = some y := by rfl) (hx : Loc X.env.scope x := by first | exact .inl rfl | exact .inr rfl) (hy : Loc X.env.scope y := by first | exact .inl rfl | exact .inr rfl)
    (hf : X.fn x = true ∨ X.env.scope.names.lookup x = some .local := by first | exact .inl rfl | exact .inr rfl) (hf2 : X.fn y = true ∨ X.env.scope.names.lookup y = some .local := by first | exact .inl rfl | exact .inr rfl)
    (hn : (assignEach [.Name x px, .Name y py] X.env).length = 2 := by rfl) (hst : (assignEach [.Name x px, .Name y py] X.env).findIdx? (·.1) = none := by rfl)
    (hq1 : PGs X [.Name x px, .Name y py] (gCons (gName k) (gCons (gName m) gNil)))
    (hs : ∀ x, foldedSetIterable iter X.env x = pure x := by intro _; rfl) : E1 X (.For (.Tuple [.Name x px, .Name y py] kt pt) iter body [] pos) Γ O :=
  e1_forE (gt := gTup X.K 2 (gCons (gName k) (gCons (gName m) gNil))) (ks := [k, m]) (Pi := fun _ => True) xs (fun z => PyData.tuple [e1 z, e2 z]) I (fun Γ' x => (Γ'.set k (some (.d (e1 x)))).set m (some (.d (e2 x)))) (evi_e hi i0)
    (fun Γ' i h x _ => tgt_pair (hk Γ' i h).1 (hk Γ' i h).2 hkm) (pg_tup hc hq1 hn hst) hb he hp hc hs

/-! ### while -/
theorem e1_while (I : Nat → Gm → Prop) (m0 : Nat) (i0 : I m0 Γ)
    (hb : ∀ m Γ', I m Γ' → ∃ k, EvT X c Γ' k ∧ (k = true → Ex X body Γ' { N := fun Γ2 => ∃ m', m' < m ∧ I m' Γ2, R := O.R, Bk := O.N, C := fun Γ2 => ∃ m', m' < m ∧ I m' Γ2 }) ∧ (k = false → O.N Γ'))
    (hp : PassesOwn (model X.prog X.w) X.A X.env X.xe) : E1 X (.While c body [] pos) Γ O := fun B F σ H D g w => by
  refine sS_of (ps_while hp pt_s pb_s) ⟨fun m σ' H' => ∃ F' Γ', Step F H F' H' ∧ GOk X.K B F' H' σ' Γ' ∧ I m Γ', ⟨m0, F, Γ, Step.refl, g, i0⟩, ?_⟩
  rintro m σ1 H1 ⟨F1, Γ1, s1, g1, i1⟩
  obtain ⟨k, ht, h1, h2⟩ := hb m Γ1 i1
  refine ht B F1 σ1 H1 _ g1 fun H2 s2 => ?_
  have st : Step F H F1 H2 := s1.trans (Step.same s2)
  cases k with
  | false => exact iteF (w.nx F1 σ1 H2 Γ1 st (g1.grow s2) (h2 rfl))
  | true =>
    refine iteT ⟨fun σ' H' => ∃ m', m' < m ∧ ∃ F' Γ', Step F H F' H' ∧ GOk X.K B F' H' σ' Γ' ∧ I m' Γ', fun σ' H' ⟨m', l, q⟩ => ⟨m', l, q⟩, ?_⟩
    refine h1 rfl B F1 σ1 H2 _ (g1.grow s2) ⟨fun F' σ' H' Γ' s g' ⟨m', l, q⟩ => ⟨m', l, F', Γ', st.trans s, g', q⟩, fun v F' σ' H' Γ' d s g' r q => w.rt v F' σ' H' Γ' d (st.trans s) g' r q,
      fun F' σ' H' Γ' s g' q => w.nx F' σ' H' Γ' (st.trans s) g' q, fun F' σ' H' Γ' s g' ⟨m', l, q⟩ => ⟨m', l, F', Γ', st.trans s, g', q⟩⟩

/-! ### two names at once -/
/-- x, y = a, b: both data -/
theorem e1_par {i j : Nat} {d1 d2 : PyData} {px py pt : Pos} {kt k2 : Nat} {pt2 : Pos} (h1 : EvP X a Γ d1) (h2 : EvP X b Γ d2) (z : O.N ((Γ.set i (some (.d d1))).set j (some (.d d2)))) (hij : i ≠ j) (hc : X.calm = true) (hN : X.N.Nodup)
    (hw : swappedStores [.Tuple [.Name x px, .Name y py] kt pt] (.Tuple [a, b] k2 pt2) X.env = pure (some [x, y]))
    (hi : X.N[i]? = some x := by rfl) (hj : X.N[j]? = some y := by rfl) (hx : X.env.scope.names.lookup x = some .local := by rfl) (hy : X.env.scope.names.lookup y = some .local := by rfl)
    (hs : swapsWithSole [.Tuple [.Name x px, .Name y py] kt pt] (.Tuple [a, b] k2 pt2) pos.line X.env = pure false := by rfl)
    (hs1 : starEach [a, b] X.env = (false, eval a X.env) :: starEach [b] X.env := by rfl) (hs2 : starEach [b] X.env = (false, eval b X.env) :: starEach [] X.env := by rfl) :
    E1 X (.Assign [.Tuple [.Name x px, .Name y py] kt pt] (.Tuple [a, b] k2 pt2) pos) Γ O := fun B F σ H D g w =>
  sS_of (ps_par hc hN hi hj hij hx hy pa_s hw hs) (eva_cons h1 (eva_1 h2 hs2) hs1 B F σ H _ g fun vs H1 s1 q => by
    cases q with
    | cons q1 q =>
      obtain ⟨v2, rfl, q2⟩ := dps_one' q
      have g1 := g.grow s1
      have q2' : Dp X.K (hid (hd B (upF F i [])) H1) v2 d2 := dp_mono (Step.stab step_drop) _ q2
      exact ⟨_, _, rfl, w.nx _ _ H1 _ ((Step.same s1).trans (step_drop.trans step_drop)) ((g1.set i q1).set j q2') z⟩)
/-- x, y = a, b: b a new list of y's own -/
theorem e1_parF {i j : Nat} {d1 : PyData} {px py pt : Pos} {kt k2 : Nat} {pt2 : Pos} (h1 : EvP X a Γ d1) (h2 : EvF X b Γ ds) (hjl : j < Γ.length) (z : O.N ((Γ.set i (some (.d d1))).set j (some (.l ds)))) (hij : i ≠ j) (hc : X.calm = true) (hN : X.N.Nodup)
    (hw : swappedStores [.Tuple [.Name x px, .Name y py] kt pt] (.Tuple [a, b] k2 pt2) X.env = pure (some [x, y]))
    (hi : X.N[i]? = some x := by rfl) (hj : X.N[j]? = some y := by rfl) (hx : X.env.scope.names.lookup x = some .local := by rfl) (hy : X.env.scope.names.lookup y = some .local := by rfl)
    (hs : swapsWithSole [.Tuple [.Name x px, .Name y py] kt pt] (.Tuple [a, b] k2 pt2) pos.line X.env = pure false := by rfl)
    (hs1 : starEach [a, b] X.env = (false, eval a X.env) :: starEach [b] X.env := by rfl) (hs2 : starEach [b] X.env = (false, eval b X.env) :: starEach [] X.env := by rfl) :
    E1 X (.Assign [.Tuple [.Name x px, .Name y py] kt pt] (.Tuple [a, b] k2 pt2) pos) Γ O := fun B F σ H D g w =>
  sS_of (ps_par hc hN hi hj hij hx hy pa_s hw hs) (sA_of (pa_cons pe_s (pa_cons pe_s pa_nil hs2) hs1) (h1 B F σ H _ g fun v1 H1 s1 q1 => h2 B F σ H1 _ (g.grow s1) fun l vs H2 s2 n h2' q2 => by
    have g2 : GOk X.K (also l B) F H2 σ Γ := (g.grow s1).cover s2 n (by rw [h2']; simp)
    have q1' : Dp X.K (hid (hd (also l B) F) H2) v1 d1 := dp_mono (fun b o z => by
      obtain ⟨z1, z2⟩ := hid_iff.mp z
      refine hid_iff.mpr ⟨fun w => ?_, s2 b o z2⟩
      rcases w with (w | w) | w
      · rw [w, n] at z2; cases z2
      · exact z1 (.inl w)
      · exact z1 (.inr w)) _ q1
    have g3 := g2.set i q1'
    have q3 : DpAll X.K (hid (hd (also l B) (upF F i [])) H2) vs ds := dps_mono (Step.stab step_drop) _ q2
    have nB : ¬ B l := fun z => (g.grow s1).own l (.inl z) n
    refine ⟨_, _, rfl, w.nx _ _ H2 _ ⟨fun b o h _ => s2 b o (s1 b o h), fun k b h => ?_, fun b h => ?_⟩ (g3.setL j (by rw [List.length_set]; exact hjl) nB h2' q3) z⟩
    · rcases upF_mem h with ⟨_, z⟩ | ⟨_, z⟩
      · refine .inr ?_
        rw [show b = l by simpa using z]
        exact s1.free n
      · rcases upF_mem z with ⟨_, z⟩ | ⟨_, z⟩
        · cases z
        · exact .inl ⟨k, z⟩
    · cases r : H b with
      | none => exact absurd r h
      | some o => rw [s2 b o (s1 b o r)]; simp))
/-- x, y = e, e a tuple (or list) of two -/
theorem e1_unT {i j : Nat} {px py pt : Pos} {kt : Nat} {d1 d2 : PyData} (he : Ev X e Γ fun d Γ' => ∃ d1 d2, d = .tuple [d1, d2] ∧ O.N ((Γ'.set i (some (.d d1))).set j (some (.d d2)))) (hc : X.calm = true)
    (hq1 : PGs X [.Name x px, .Name y py] (gCons (gName i) (gCons (gName j) gNil)))
    (hn : (assignEach [.Name x px, .Name y py] X.env).length = 2 := by rfl) (hst : (assignEach [.Name x px, .Name y py] X.env).findIdx? (·.1) = none := by rfl)
    (hs : swapsWithSole [.Tuple [.Name x px, .Name y py] kt pt] e pos.line X.env = pure false := by rfl) (hw : swappedStores [.Tuple [.Name x px, .Name y py] kt pt] e X.env = pure none := by rfl) :
    E1 X (.Assign [.Tuple [.Name x px, .Name y py] kt pt] e pos) Γ O := fun B F σ H D g w =>
  sS_of (ps_asg pe_s (pg_tup hc hq1 hn hst) hs hw) (he B F σ H _ g fun v H1 F1 Γ1 d s1 g1 q ⟨d1, d2, e1, z⟩ => by
    subst e1
    obtain ⟨a, vs, rfl, h1, h2⟩ := dp_tuple q
    cases h2 with
    | cons p1 h2 =>
      obtain ⟨v2, rfl, p2⟩ := dps_one' h2
      have q2' : Dp X.K (hid (hd B (upF F1 i [])) H1) v2 d2 := dp_mono (Step.stab step_drop) _ p2
      exact ⟨a, _, rfl, same_seqT hid_le h1, rfl, _, _, rfl, _, _, rfl, rfl, w.nx _ _ H1 _ (s1.trans (step_drop.trans step_drop)) ((g1.set i p1).set j q2') z⟩)
/-! ### the same, by what the names hold at each turn -/
theorem GOk.drop {K : PySem.W.Frag} {B : Addr → Prop} {F : Nat → List Addr} {H : Hp} {σ : L2.St} (g : GOk K B F H σ Γ) (i : Nat) : GOk K B (upF F i []) H σ (Γ.set i none) := by
  have st : Same (hid (hd B F) H) (hid (hd B (upF F i [])) H) := Step.stab step_drop
  refine ⟨by rw [List.length_set]; exact g.ls, fun j k b h1 h2 => ?_, fun j b h => ?_, fun b h => ?_, fun j e h1 => ?_, g.nilS⟩
  · rcases upF_mem h1 with ⟨_, z⟩ | ⟨_, z1⟩
    · cases z
    · rcases upF_mem h2 with ⟨_, z⟩ | ⟨_, z2⟩
      · cases z
      · exact g.dj j k b z1 z2
  · rcases upF_mem h with ⟨_, z⟩ | ⟨_, z⟩
    · cases z
    · exact g.out j b z
  · refine g.own b ?_
    rcases h with z | ⟨j, z⟩
    · exact .inl z
    · rcases upF_mem z with ⟨_, z⟩ | ⟨_, z⟩
      · cases z
      · exact .inr ⟨j, z⟩
  · by_cases e1 : i = j
    · subst e1
      have hl : i < Γ.length := by
        have := (List.getElem?_eq_some_iff.mp h1).1
        rw [List.length_set] at this
        exact this
      rw [List.getElem?_set_self hl] at h1
      cases h1
    · rw [List.getElem?_set_ne e1] at h1
      obtain ⟨u, h2, h3⟩ := g.ent j e h1
      refine ⟨u, h2, ?_⟩
      rw [upF_ne (Ne.symm e1)]
      exact h3.mono st fun _ _ => rfl
theorem ex_drop (i : Nat) (h : Ex X sts (Γ.set i none) O) : Ex X sts Γ O := fun B F σ H D g w => h B _ σ H D (g.drop i) (w.step step_drop)
theorem e1_drop (i : Nat) (h : E1 X st (Γ.set i none) O) : E1 X st Γ O := fun B F σ H D g w => h B _ σ H D (g.drop i) (w.step step_drop)
theorem ex_dropN {N : Gm → Prop} {R : PyData → Gm → Prop} {Bk C : Gm → Prop} (i : Nat) (h : Ex X sts Γ { N := fun Γ' => N (Γ'.set i none), R := R, Bk := Bk, C := fun Γ' => C (Γ'.set i none) }) : Ex X sts Γ { N := N, R := R, Bk := Bk, C := C } := fun B F σ H D g w =>
  h B F σ H D g ⟨fun F' σ' H' Γ' s g' q => w.nx _ σ' H' _ (s.trans step_drop) (g'.drop i) q, w.rt, w.bk, fun F' σ' H' Γ' s g' q => w.ct _ σ' H' _ (s.trans step_drop) (g'.drop i) q⟩
theorem nOwn_set (i : Nat) : nOwn (Γ.set i none) i = true := by
  unfold nOwn
  by_cases h : i < Γ.length
  · rw [List.getElem?_set_self h]
  · rw [List.getElem?_eq_none (by rw [List.length_set]; omega)]
/-- for x in e: body: at turn i the names hold G i (x's own slot k is nothing there) -/
theorem e1_forG {α : Type} (k : Nat) {px : Pos} (xs : List α) (enc : α → PyData) (G : Nat → Gm) (hi : EvI X (.Name x px) iter (Γ.set k none) (xs.map enc)) (i0 : Γ.set k none = G 0) (hk : ∀ i, nOwn (G i) k = true)
    (hb : ∀ i x, xs[i]? = some x → Ex X body ((G i).set k (some (.d (enc x)))) { N := fun Γ2 => Γ2.set k none = G (i + 1), R := O.R, Bk := O.N, C := fun Γ2 => Γ2.set k none = G (i + 1) })
    (he : O.N (G xs.length)) (hp : PassesOwn (model X.prog X.w) X.A X.env X.xe) (hc : X.calm = true) (hN : X.N.Nodup) (hi2 : X.N[k]? = some x := by rfl) (hx : Loc X.env.scope x := by first | exact .inl rfl | exact .inr rfl)
    (hf : X.fn x = true ∨ X.env.scope.names.lookup x = some .local := by first | exact .inl rfl | exact .inr rfl)
    (hs : ∀ x, foldedSetIterable iter X.env x = pure x := by intro _; rfl) : E1 X (.For (.Name x px) iter body [] pos) Γ O :=
  e1_drop k (e1_for k xs enc (fun i Γ' => Γ' = G i) hi i0 (fun Γ' i h => by rw [h]; exact hk i) (fun i x Γ' hx h => by
    subst h
    exact ex_dropN k (hb i x hx)) (fun Γ' h => by rw [h]; exact he) hp hc hN hi2 hx hf hs)
theorem e1_for2G {α : Type} (k m : Nat) {px py pt : Pos} {kt : Nat} (xs : List α) (e1 e2 : α → PyData) (G : Nat → Gm) (hi : EvI X (.Tuple [.Name x px, .Name y py] kt pt) iter ((Γ.set k none).set m none) (xs.map fun z => PyData.tuple [e1 z, e2 z])) (i0 : (Γ.set k none).set m none = G 0)
    (hk : ∀ i, nOwn (G i) k = true ∧ nOwn (G i) m = true) (hkm : k ≠ m)
    (hb : ∀ i x, xs[i]? = some x → Ex X body (((G i).set k (some (.d (e1 x)))).set m (some (.d (e2 x)))) { N := fun Γ2 => (Γ2.set k none).set m none = G (i + 1), R := O.R, Bk := O.N, C := fun Γ2 => (Γ2.set k none).set m none = G (i + 1) })
    (he : O.N (G xs.length)) (hp : PassesOwn (model X.prog X.w) X.A X.env X.xe) (hc : X.calm = true) (hN : X.N.Nodup) (hq1 : PGs X [.Name x px, .Name y py] (gCons (gName k) (gCons (gName m) gNil))) (hi2 : X.N[k]? = some x := by rfl) (hi3 : X.N[m]? = some y := by rfl) (hx : Loc X.env.scope x := by first | exact .inl rfl | exact .inr rfl) (hy : Loc X.env.scope y := by first | exact .inl rfl | exact .inr rfl)
    (hf : X.fn x = true ∨ X.env.scope.names.lookup x = some .local := by first | exact .inl rfl | exact .inr rfl) (hf2 : X.fn y = true ∨ X.env.scope.names.lookup y = some .local := by first | exact .inl rfl | exact .inr rfl)
    (hn : (assignEach [.Name x px, .Name y py] X.env).length = 2 := by rfl) (hst : (assignEach [.Name x px, .Name y py] X.env).findIdx? (·.1) = none := by rfl)
    (hs : ∀ x, foldedSetIterable iter X.env x = pure x := by intro _; rfl) : E1 X (.For (.Tuple [.Name x px, .Name y py] kt pt) iter body [] pos) Γ O :=
  e1_drop k (e1_drop m (e1_for2 k m xs e1 e2 (fun i Γ' => Γ' = G i) hi i0 (fun Γ' i h => by rw [h]; exact hk i) hkm (fun i x Γ' hx h => by
    subst h
    exact ex_dropN m (ex_dropN k (ex_imp (hb i x hx) (fun Γ' h => h) (fun _ _ h => h) (fun _ h => h) (fun _ h => h)))) (fun Γ' h => by rw [h]; exact he) hp hc hN hi2 hi3 hx hy hf hf2 hn hst hq1 hs))
end
/-- the entry of a def over data -/
def start0 (N : List Str) (ds : List PyData) : Gm := ds.map (fun d => some (.d d)) ++ List.replicate (N.length - ds.length) none
theorem gok_start {K : PySem.W.Frag} {B : Addr → Prop} {H : Hp} {N : List Str} {vs : List V} {ds : List PyData} (own : ∀ b, B b → H b ≠ none) (h : DpAll K (hid B H) vs ds) : GOk K B (fun _ => []) H (L2.start N vs) (start0 N ds) := by
  have hl := dps_len h
  have hB : ∀ b, hd B (fun _ => []) b → B b := fun b z => by
    rcases z with z | ⟨_, z⟩
    · exact z
    · cases z
  refine ⟨?_, fun i j b z => (nomatch z), fun i b z => (nomatch z), fun b z => own b (hB b z), fun i e h1 => ?_, fun i _ => rfl⟩
  · unfold L2.start start0
    simp [hl]
  · unfold start0 at h1
    by_cases hi : i < ds.length
    · rw [List.getElem?_append_left (by simpa using hi), List.getElem?_map] at h1
      cases e1 : ds[i]? with
      | none => rw [e1] at h1; cases h1
      | some d =>
        rw [e1] at h1
        cases h1
        obtain ⟨v, h2, h3⟩ := dps_get h e1
        refine ⟨v, ?_, dp_mono (fun b o q => ?_) _ h3⟩
        · unfold L2.start
          rw [List.getElem?_append_left (by simpa [hl] using hi), List.getElem?_map, h2] <;> rfl
        · obtain ⟨q1, q2⟩ := hid_iff.mp q
          exact hid_iff.mpr ⟨fun z => q1 (hB b z), q2⟩
    · rw [List.getElem?_append_right (by simpa using hi), List.getElem?_replicate] at h1
      split at h1 <;> cases h1
/-- the context of a def's body -/
abbrev Cb (P : Program) (w : World) (K : PySem.W.Frag) (mg : Str → Option Value) (base : Heap) (N : List Str) (qual : Str) (st : Stmt) (f : Addr) (cdv : Value) (A : Around) (outer : List Env) (s : Shared) (H : Hp) (E : XK) : Cx :=
  (cxOf CX0 P w K mg base N qual (defScope st) f cdv A outer s H E).nox
/-- what is wanted of a body that is worth d -/
def outP (d : PyData) : Out := { N := fun _ => d = .none, R := fun d' _ => d' = d }
section
variable {P : Program} {w : World} {K : PySem.W.Frag} {mg : Str → Option Value} {base : Heap}
/-- a def that only makes new things, by its body -/
theorem fun_pure {x qual : Str} {st : Stmt} {f : Addr} {fd : FuncData} {N ps : List Str} {k : Nat} {R : List PyData → PyData → Prop} (F : Fun K x qual st f fd) (S : FnScope N ps (defScope st)) (hl : ∀ ds d, R ds d → ds.length = ps.length)
    (hb : ∀ (cdv : Value) (A : Around) (outer : List Env) (s : Shared) (H : Hp) (E : XK), Room k (A.deeper (envOfC qual (defScope st) s.heap.objs.size f cdv)) → ∀ ds d, R ds d → Ex (Cb P w K mg base N qual st f cdv A outer s H E) (defBody st) (start0 N ds) (outP d)) :
    FnOk P w K mg base CX0 (k + 1) f fd ps (spP K R) := by
  refine F.ok S (fun vs H Q E ⟨ds, d, B, h1, h2, h3, h4⟩ => by rw [dps_len h3]; exact hl ds d h1) (fun cdv A outer s H vs Q E hr ⟨ds, d, B, h1, h2, h3, h4⟩ => ?_)
  refine ⟨sB _ (defBody st), pb_s, hb cdv A outer s H E hr ds d h1 B (fun _ => []) (L2.start N vs) H _ (gok_start h2 h3) ⟨fun F' σ' H' Γ' s g' e => ?_, fun v F' σ' H' Γ' d' s g' q e => ?_, fun _ _ _ _ _ _ q => q.elim, fun _ _ _ _ _ _ q => q.elim⟩⟩
  · exact h4 _ H' (fun b o q => s.keep b o q fun i z => (nomatch z)) (by rw [show d = PyData.none from e]; exact .non)
  · obtain rfl : d' = d := e
    refine h4 v H' (fun b o q => s.keep b o q fun i z => (nomatch z)) (dp_mono (fun b o q => ?_) _ q)
    obtain ⟨q1, q2⟩ := hid_iff.mp q
    exact hid_iff.mpr ⟨fun z => q1 (.inl z), q2⟩
end
end Mt

set_option maxHeartbeats 1000000
namespace Mt
open PySem PySem.Spec PyProof.Rows L2
/-! ### masks as naturals -/
theorem or_add : ∀ (a b : Nat), a &&& b = 0 → a + b = a ||| b := by
  intro a
  induction a using Nat.strongRecOn with
  | _ a ih =>
    intro b h
    by_cases ha : a = 0
    · subst ha; simp
    · have h2 : (a / 2) &&& (b / 2) = 0 := by rw [← Nat.and_div_two, h]
      have h3 := ih (a / 2) (by omega) (b / 2) h2
      have h4 : (a ||| b) / 2 = a / 2 ||| b / 2 := Nat.or_div_two
      have h5 : (a ||| b) % 2 = (a % 2) ||| (b % 2) := Nat.or_mod_two_pow (n := 1)
      have h6 : (a % 2) &&& (b % 2) = 0 := by
        have := Nat.and_mod_two_pow (a := a) (b := b) (n := 1)
        rw [h] at this
        simpa using this.symm
      have h7 : (a % 2) ||| (b % 2) = a % 2 + b % 2 := by
        rcases Nat.mod_two_eq_zero_or_one a with x | x <;> rcases Nat.mod_two_eq_zero_or_one b with y | y <;> rw [x, y] at h6 ⊢ <;> first | rfl | exact absurd h6 (by decide)
      omega
theorem sub_xor (m n : Nat) : m - (m &&& n) = m ^^^ (m &&& n) ∧ m &&& n ≤ m := by
  have e : (m &&& n) + (m ^^^ (m &&& n)) = m := by
    rw [or_add]
    · apply Nat.eq_of_testBit_eq
      intro i
      simp only [Nat.testBit_or, Nat.testBit_and, Nat.testBit_xor]
      cases m.testBit i <;> cases n.testBit i <;> rfl
    · apply Nat.eq_of_testBit_eq
      intro i
      simp only [Nat.testBit_and, Nat.testBit_xor, Nat.zero_testBit]
      cases m.testBit i <;> cases n.testBit i <;> rfl
  omega
/-- m without n's things -/
def sd (m n : Nat) : Nat := m ^^^ (m &&& n)
theorem sd_bit (m n i : Nat) : (sd m n).testBit i = (m.testBit i && !n.testBit i) := by
  unfold sd
  rw [Nat.testBit_xor, Nat.testBit_and]
  cases m.testBit i <;> cases n.testBit i <;> rfl
theorem and_nat (m n : Nat) : Builtin.bitAnd (m : Int) (n : Int) = ((m &&& n : Nat) : Int) := by
  unfold Builtin.bitAnd
  simp
theorem or_nat (m n : Nat) : Builtin.bitOr (m : Int) (n : Int) = ((m ||| n : Nat) : Int) := by
  rw [bitOr_nn (by omega) (by omega), Int.toNat_natCast, Int.toNat_natCast]
theorem andnot_nat (m n : Nat) : Builtin.bitAnd (m : Int) (Builtin.bitNot (n : Int)) = ((sd m n : Nat) : Int) := by
  have e1 : ¬ (0 : Int) ≤ Builtin.bitNot (n : Int) := by
    unfold Builtin.bitNot
    omega
  have e2 : (Builtin.bitNot (Builtin.bitNot (n : Int))).toNat = n := by
    unfold Builtin.bitNot
    omega
  have e3 : Builtin.bitAnd (m : Int) (Builtin.bitNot (n : Int)) = (m : Int) - (((m : Int).toNat &&& (Builtin.bitNot (Builtin.bitNot (n : Int))).toNat : Nat) : Int) := by
    unfold Builtin.bitAnd
    rw [decide_eq_true (show (0 : Int) ≤ (m : Int) by omega), decide_eq_false e1]
  rw [e3, e2, Int.toNat_natCast]
  obtain ⟨h1, h2⟩ := sub_xor m n
  unfold sd
  omega
theorem shl_nat (t : Nat) : (1 : Int) * 2 ^ ((t : Int)).toNat = ((2 ^ t : Nat) : Int) := by
  rw [Int.one_mul, Int.toNat_natCast, PySem.W.kbt_cast]
theorem shr_nat (m t : Nat) : (m : Int) / 2 ^ ((t : Int)).toNat = ((m / 2 ^ t : Nat) : Int) := by
  rw [Int.toNat_natCast, ← PySem.W.kbt_cast]
  rfl
theorem bit_one (m t : Nat) : m / 2 ^ t &&& 1 = (m.testBit t).toNat := by
  rw [Nat.and_one_is_mod, Nat.testBit_eq_decide_div_mod_eq]
  have : m / 2 ^ t % 2 < 2 := Nat.mod_lt _ (by decide)
  by_cases h : m / 2 ^ t % 2 = 1
  · simp [h]
  · have : m / 2 ^ t % 2 = 0 := by omega
    simp [this]
section
variable {X : Cx} {a b e : Expr} {Γ : Gm} {pos p2 : Pos} {m n t : Nat} {kk : Nat}
abbrev nt (n : Nat) : PyData := .int (n : Nat)
theorem evn_and (ha : EvP X a Γ (nt m)) (hb : EvP X b Γ (nt n)) : EvP X (.BinOp a .BitAnd b pos) Γ (nt (m &&& n)) := by
  rw [show nt (m &&& n) = .int (Builtin.bitAnd (m : Int) (n : Int)) by rw [and_nat]]
  exact evp_bin0 op_and ha hb
theorem evn_or (ha : EvP X a Γ (nt m)) (hb : EvP X b Γ (nt n)) : EvP X (.BinOp a .BitOr b pos) Γ (nt (m ||| n)) := by
  rw [show nt (m ||| n) = .int (Builtin.bitOr (m : Int) (n : Int)) by rw [or_nat]]
  exact evp_bin0 op_or ha hb
/-- a & ~b -/
theorem evn_sd (ha : EvP X a Γ (nt m)) (hb : EvP X b Γ (nt n)) : EvP X (.BinOp a .BitAnd (.UnaryOp .Invert b p2) pos) Γ (nt (sd m n)) := by
  rw [show nt (sd m n) = .int (Builtin.bitAnd (m : Int) (Builtin.bitNot (n : Int))) by rw [andnot_nat]]
  exact evp_bin0 op_and ha (evp_un un_inv hb)
/-- 1 << t -/
theorem evn_shl (ha : EvP X e Γ (nt t)) (ht : t ≤ 1000000) : EvP X (.BinOp (.Constant (.int 1) kk p2) .LShift e pos) Γ (nt (2 ^ t)) := by
  rw [show nt (2 ^ t) = .int ((1 : Int) * 2 ^ ((t : Int)).toNat) by rw [shl_nat]]
  exact evp_bin (C := CPow) (f := fun i j => i * 2 ^ j.toNat) op_shl ⟨by omega, by omega, by decide⟩ evp_int ha
/-- a >> t & 1 -/
theorem evn_bit {p3 p4 : Pos} (ha : EvP X a Γ (nt m)) (ht : EvP X e Γ (nt t)) : EvP X (.BinOp (.BinOp a .RShift e p3) .BitAnd (.Constant (.int 1) kk p4) pos) Γ (nt (m.testBit t).toNat) := by
  rw [← bit_one]
  refine evn_and (n := 1) ?_ evp_int
  rw [show nt (m / 2 ^ t) = .int ((m : Int) / 2 ^ ((t : Int)).toNat) by rw [shr_nat]]
  exact evp_bin (C := fun _ j => 0 ≤ j) (f := fun i j => i / 2 ^ j.toNat) op_shr (Int.natCast_nonneg _) ha ht
theorem evn_add (ha : EvP X a Γ (nt m)) (hb : EvP X b Γ (nt n)) : EvP X (.BinOp a .Add b pos) Γ (nt (m + n)) := by
  rw [show nt (m + n) = .int ((m : Int) + (n : Int)) by rw [← Int.natCast_add]]
  exact evp_bin0 op_add ha hb
theorem evn_sub (h : n ≤ m) (ha : EvP X a Γ (nt m)) (hb : EvP X b Γ (nt n)) : EvP X (.BinOp a .Sub b pos) Γ (nt (m - n)) := by
  rw [show nt (m - n) = .int ((m : Int) - (n : Int)) from congrArg PyData.int (by omega)]
  exact evp_bin0 op_sub ha hb
theorem evn_k {k : Nat} (n : Nat) : EvP X (.Constant (.int (n : Nat)) k pos) Γ (nt n) := evp_int
theorem dec_nat (m n : Nat) : decide ((m : Int) = (n : Int)) = decide (m = n) := by
  rw [decide_eq_decide]
  omega
theorem evn_eq (ha : EvP X a Γ (nt m)) (hb : EvP X b Γ (nt n)) : EvP X (.Compare a [.Eq] [b] pos) Γ (.bool (decide (m = n))) := by
  rw [← dec_nat]
  exact evp_eqI ha hb
theorem evn_ne (ha : EvP X a Γ (nt m)) (hb : EvP X b Γ (nt n)) : EvP X (.Compare a [.NotEq] [b] pos) Γ (.bool (!decide (m = n))) := by
  rw [← dec_nat]
  exact evp_neI ha hb
theorem etn_eq (ha : EvP X a Γ (nt m)) (hb : EvP X b Γ (nt n)) : EvT X (.Compare a [.Eq] [b] pos) Γ (decide (m = n)) := by
  rw [← dec_nat]
  exact evt_eqI ha hb
theorem etn_ne (ha : EvP X a Γ (nt m)) (hb : EvP X b Γ (nt n)) : EvT X (.Compare a [.NotEq] [b] pos) Γ (!decide (m = n)) := by
  rw [← dec_nat]
  exact evt_neI ha hb
/-- a >> t & 1 == 1, == 0 -/
theorem etn_bit1 {p3 p4 p5 : Pos} {k2 : Nat} (ha : EvP X a Γ (nt m)) (ht : EvP X e Γ (nt t)) : EvT X (.Compare (.BinOp (.BinOp a .RShift e p3) .BitAnd (.Constant (.int 1) kk p4) pos) [.Eq] [.Constant (.int 1) k2 p5] p2) Γ (m.testBit t) := by
  have h : decide ((m.testBit t).toNat = 1) = m.testBit t := by cases m.testBit t <;> rfl
  have q : EvT X (.Compare (.BinOp (.BinOp a .RShift e p3) .BitAnd (.Constant (.int 1) kk p4) pos) [.Eq] [.Constant (.int 1) k2 p5] p2) Γ (decide ((m.testBit t).toNat = 1)) := etn_eq (evn_bit ha ht) (evn_k 1)
  rw [h] at q
  exact q
theorem etn_bit0 {p3 p4 p5 : Pos} {k2 : Nat} (ha : EvP X a Γ (nt m)) (ht : EvP X e Γ (nt t)) : EvT X (.Compare (.BinOp (.BinOp a .RShift e p3) .BitAnd (.Constant (.int 1) kk p4) pos) [.Eq] [.Constant (.int 0) k2 p5] p2) Γ (!m.testBit t) := by
  have h : decide ((m.testBit t).toNat = 0) = !m.testBit t := by cases m.testBit t <;> rfl
  have q : EvT X (.Compare (.BinOp (.BinOp a .RShift e p3) .BitAnd (.Constant (.int 1) kk p4) pos) [.Eq] [.Constant (.int 0) k2 p5] p2) Γ (decide ((m.testBit t).toNat = 0)) := etn_eq (evn_bit ha ht) (evn_k 0)
  rw [h] at q
  exact q
end
end Mt

set_option maxHeartbeats 2000000
namespace Mt
open PySem PySem.Spec PyProof.Rows L2

/-! ### sorted(xs, key=f), f a def that only makes new things -/
theorem un_on {fs : List Addr} {H H' : Hp} {h h1 h2 : Heap} (u : Un fs [] H H' h h1) (k : ∀ b o, b < h.objs.size → h1.get? b = some o → h2.get? b = some o) : Un fs [] H H' h h2 where
  keep := fun b o q n hb hx => k b o (Heap.lt_size q) (u.keep b o q n hb hx)
  slot := fun b o q n hb hx => by
    obtain ⟨sl, e⟩ := u.slot b o q n hb hx
    exact ⟨sl, k b _ (Heap.lt_size q) e⟩
  free := u.free
  there := fun b o q hx => by
    obtain ⟨o', e⟩ := u.there b o q hx
    exact ⟨o', k b _ (Heap.lt_size q) e⟩
  tups := u.tups
  frzs := u.frzs
  tbls := u.tbls
theorem hok_on {P : Program} {w : World} {H : Hp} {h h' : Heap} (x : HOk P w H h) (k : ∀ b u, H b ≠ none → h.get? b = some u → h'.get? b = some u) : HOk P w H h' := fun a o e =>
  (x a o e).stay (fun b u z q => k b u (by
    rcases z with z | z
    · rw [z, e]; simp
    · rw [z]; simp) q) (fun _ q => q) fun _ _ q => q
section
variable {X : Cx} {α : Type}
theorem sort_key_run {pins : List (Addr × Obj)} {s : Shared} {σ : L2.St} {H : Hp} {a f : Addr} {vs : List V} {fd : FuncData} {k : Nat} {ps : List Str} {R : List PyData → PyData → Prop} {B : Addr → Prop} {Q : VK} (xs : List α) (enc kd : α → PyData)
    (I : Inv X pins σ H s) (hs : SqL X.K H a vs) (A : At X.K X.mg x ps f fd) (G : FnOk X.prog X.w X.K X.mg X.base CX0 k f fd ps (spP X.K R)) (hr : Room (k + 2) X.A) (h1 : ps.length = 1)
    (own : ∀ b, B b → H b ≠ none) (q : DpAll X.K (hid B H) vs (xs.map enc)) (hR : ∀ x ∈ xs, R [enc x] (kd x)) (hal : PySem.W.AllAlike (xs.map kd)) (hsk : PySem.W.Sortable (xs.map kd)) (hdp : ∀ x ∈ xs, (kd x).depth ≤ 64) (hl : xs.length ≤ sizeLine)
    (fin : ∀ p ws H', Same H H' → H p = none → H' p = some (.lst ws) → DpAll X.K (hid (also p B) H') ws ((xs.mergeSort (PySem.W.dataLe false kd)).map enc) → Q (.ref p) H') :
    wpAny (model X.prog X.w) X.A (call (.builtin "sorted") [.ref a] [(Str.ofString "key", .ref f)]) (EP X pins σ Q) X.xe s := by
  obtain ⟨its, rv, pl, hz⟩ := I.list hs
  have hvl : vs.length = xs.length := by rw [dps_len q, List.length_map]
  have hil : its.length = xs.length := by rw [← rv.length, hvl]
  have hu := hr.units
  refine PySem.W.sorted_of_sort pl.isList (by rw [hil]; exact hl) (ksk_s1 _ _) (fun _ => ksk_l1 _ _) fun E' => ?_
  rw [ksk_t1]
  have ho : (PySem.W.copyHeap s.heap its).get? (s.heap.objs.size + 1) = some (seqObj "list" its.toArray 0) := PySem.W.copyHeap_at s.heap its
  obtain ⟨e1, ho1⟩ : ∃ e1, ((PySem.W.copyHeap s.heap its).update (s.heap.objs.size + 1) (Obj.mapSeq fun _ => (#[] : Array Value))).get? (s.heap.objs.size + 1) = some (seqObj "list" #[] e1) := ⟨_, get?_update_seq ho fun _ => #[]⟩
  have ha1 : s.heap.objs.size + 1 < (PySem.W.copyHeap s.heap its).objs.size := Heap.lt_size ho
  unfold ksk_tree
  refine wpAny_bind (listItems_at ho rfl ?_)
  refine wpAny_bind (listUpdate_at ho rfl ?_ (by rw [List.size_toArray, hil]; exact hl) (Nat.zero_le _))
  refine wpAny_bind (seqEpoch_at ho1 rfl ?_)
  refine wpAny_bind (wpAny_newTuple ?_ (by show its.length ≤ _; rw [hil]; exact hl))
  refine wpAny_bind (wpAny_newList ?_ (Nat.zero_le _))
  refine wpAny_holding ?_
  -- the state ahead of the keys
  generalize hk0 : (((PySem.W.copyHeap s.heap its).update (s.heap.objs.size + 1) (Obj.mapSeq fun _ => (#[] : Array Value))).push (seqObj "tuple" its.toArray 0)).objs.size = kS
  generalize hh0 : (((PySem.W.copyHeap s.heap its).update (s.heap.objs.size + 1) (Obj.mapSeq fun _ => (#[] : Array Value))).push (seqObj "tuple" its.toArray 0)).push (seqObj "list" #[] 0) = h0
  have hkS : s.heap.objs.size + 1 < kS := by
    rw [← hk0, size_push', Heap.size_update]
    omega
  have h0k : h0.get? kS = some (seqObj "list" #[] 0) := by
    rw [← hh0, ← hk0]
    exact Heap.get?_push_size _ rfl
  have h0a : h0.get? (s.heap.objs.size + 1) = some (seqObj "list" #[] e1) := by
    rw [← hh0]
    exact Heap.get?_push_of_some _ (Heap.get?_push_of_some _ ho1)
  have h0o : ∀ b o, s.heap.get? b = some o → h0.get? b = some o := fun b o e => by
    rw [← hh0]
    refine Heap.get?_push_of_some _ (Heap.get?_push_of_some _ ?_)
    rw [Heap.get?_update_ne _ _ _ _ (Nat.ne_of_lt (Nat.lt_succ_of_lt (Heap.lt_size e)))]
    exact PySem.W.copyHeap_old e
  -- what a new address is to the frames
  have nofr : ∀ c, s.heap.objs.size ≤ c → c ∉ frs X.stack := fun c hc z => by
    rcases List.mem_cons.mp (I.stkSub c z) with e | e
    · rw [e] at hc
      exact absurd (Nat.lt_of_lt_of_le I.lt hc) (Nat.lt_irrefl _)
    · exact I.nofs hc e
  show wpAny (model X.prog X.w) X.A.in1.in1 (ksk_rest (s.heap.objs.size + 1) (.ref f) false its.toArray e1 (.ref kS)) _ E' { s with heap := h0 }
  unfold ksk_rest
  refine wpAny_bind (wpAny_rule ?_)
  first
    | rw [List.forIn_toArray]
    | (rw [← Array.forIn_toList]; simp only [List.toList_toArray])
    | rw [← Array.forIn_toList]
  let J : Nat → Shared → Prop := fun j s' => ∃ (H' : Hp) (kA : Array Value) (e : Nat), s'.os = s.os ∧ AllBare s'.gens ∧ Un (frs X.stack) [] H H' s.heap s'.heap ∧ HOk X.prog X.w H' s'.heap ∧ Same H H' ∧
    H' (s.heap.objs.size + 1) = none ∧ H' kS = none ∧ s'.heap.get? kS = some (seqObj "list" kA e) ∧ s'.heap.get? (s.heap.objs.size + 1) = some (seqObj "list" #[] e1) ∧ PySem.W.EachIs (fun u d => ∃ v, RelV v u ∧ Dp X.K H' v d) kA.toList ((xs.map kd).take j)
  refine wpAny_bind (ksk_fold J its 0 _ ?start ?step ?done)
  case start =>
    exact ⟨H, #[], 0, rfl, I.bare, Un.kept h0o, I.hok.kept h0o, Same.refl _, I.hok.fresh (Nat.le_succ _), I.hok.fresh (by omega), h0k, h0a, by rw [List.take_zero]; exact .nil⟩
  case step =>
    rintro j u s' hj ⟨H', kA, e, os, bare, un, hok, sm, na, nk, gk, ga, hkz⟩
    simp only [Nat.zero_add] at hkz ⊢
    have hjl : j < xs.length := by
      have := (List.getElem?_eq_some_iff.mp hj).1
      omega
    have hx : xs[j]? = some xs[j] := List.getElem?_eq_getElem hjl
    have hm : xs[j] ∈ xs := List.getElem_mem hjl
    have I' : Inv X pins σ H' s' := I.call' (ch := []) os un hok bare (fun b z => by cases z)
    obtain ⟨v, hv, dv⟩ := dps_get q (show (xs.map enc)[j]? = some (enc xs[j]) by rw [List.getElem?_map, hx]; rfl)
    obtain ⟨u', hu', ru⟩ := rv.get hv
    obtain rfl : u = u' := Option.some.inj (hj.symm.trans hu')
    have kc : kA.size ≤ xs.length := by
      have := hkz.length
      rw [Array.length_toList, List.length_take] at this
      omega
    have sp1 : spP X.K R [v] H' (fun v' H2 => Same H' H2 ∧ Dp X.K (hid B H2) v' (kd xs[j])) E0 := ⟨[enc xs[j]], kd xs[j], B, hR _ hm, fun b z => by
      cases r : H b with
      | none => exact absurd r (own b z)
      | some o => rw [sm b o r]; simp, dps_one (dp_mono (hid_same sm) _ dv), fun v' H2 s2 q2 => ⟨s2, q2⟩⟩
    have lb : ([u] ++ ([] : List Value)).length = ps.length := by rw [h1]; rfl
    refine wpAny_bind (wpAny_attempt (wpAny_call (codeAny_mono (G.run X.A.in1.in1 X.stack s' H' ⟨[u], []⟩ ([u] ++ []) ([v] ++ []) _ E0 (Room.in1 (Room.in1 hr)) I'.env0.in1.in1 (A.b s' [u] I'.kIn lb) (.cons ru .nil) sp1) fun r s'' hq => ?_)))
    cases r with
    | error e => exact hq.elim
    | ok fl =>
      cases fl with
      | next => exact False.elim hq
      | brk => exact False.elim hq
      | cont => exact False.elim hq
      | ret u2 =>
        obtain ⟨v2, H2, os2, bare2, un2, hok2, r2, s2, d2⟩ := hq
        have nk2 : H2 kS = none := un2.free kS _ gk nk (by simp)
        have na2 : H2 (s.heap.objs.size + 1) = none := un2.free _ _ ga na (by simp)
        have gk2 : s''.heap.get? kS = some (seqObj "list" kA e) := un2.keep _ _ gk nk (nofr _ (by omega)) (by simp)
        have ga2 : s''.heap.get? (s.heap.objs.size + 1) = some (seqObj "list" #[] e1) := un2.keep _ _ ga na (nofr _ (by omega)) (by simp)
        have sb := Heap.SameBut.update s''.heap kS (Obj.mapSeq (·.push u2))
        obtain ⟨c2, hc2⟩ : ∃ c2, (s''.heap.update kS (Obj.mapSeq (·.push u2))).get? kS = some (seqObj "list" (kA.push u2) c2) := ⟨_, get?_update_seq gk2 (·.push u2)⟩
        try dsimp only
        refine wpAny_bind (listUpdate_at gk2 rfl ?_ (Nat.le_trans kc hl) (Nat.le_trans (Nat.le_of_eq (Array.size_push ..)) (Nat.succ_le_succ (Nat.le_trans kc hl))))
        have ek : (xs.map kd).take (j + 1) = (xs.map kd).take j ++ [kd xs[j]] := by rw [List.take_add_one, List.getElem?_map, hx] <;> rfl
        have ea : (kA.push u2).toList = kA.toList ++ [u2] := by simp
        refine wpAny_pure ⟨rfl, H2, kA.push u2, c2, os2.trans os, bare2, ?_, ?_, sm.trans s2, na2, nk2, hc2, (sb.2 _ (Nat.ne_of_lt hkS)).trans ga2, ?_⟩
        · exact un_on (un.trans un2) fun b o hb eq => (sb.2 b (Nat.ne_of_lt (by omega))).trans eq
        · exact hok_on hok2 fun b o hb eq => (sb.2 b (fun z => hb (by rw [z]; exact nk2))).trans eq
        · rw [ea, ek]
          exact PySem.W.each_snoc ⟨v2, r2, dp_mono hid_le _ d2⟩ (hkz.mono fun u d ⟨v, r, z⟩ => ⟨v, r, dp_mono s2 _ z⟩)
  case done =>
    rintro s' ⟨H', kA, e, os, bare, un, hok, sm, na, nk, gk, ga, hkz⟩
    have I' : Inv X pins σ H' s' := I.call' (ch := []) os un hok bare (fun b z => by cases z)
    have e3 : (xs.map kd).take (0 + its.length) = xs.map kd := List.take_of_length_le (by rw [List.length_map]; omega)
    rw [e3] at hkz
    have hsz : kA.size = its.length := by
      have := hkz.length
      rw [Array.length_toList, List.length_map] at this
      omega
    have hrd : PySem.W.EachIs (fun u d => ∃ as, Reads s'.heap u d as) kA.toList (xs.map kd) := hkz.mono fun u d ⟨v, r, z⟩ => L2.Dp.reads I' d v u (dp_up _ z) r
    try dsimp only
    refine wpAny_bind (listItems_at gk rfl ?_)
    have hda : PySem.W.SortsAt X.prog X.w X.A.in1.in1 s' (PySem.W.dataKind s'.heap (xs.map kd)) kA.toList := PySem.W.SortsAt.data hrd hal hsk fun d hd => by
      obtain ⟨x, hx, rfl⟩ := List.mem_map.mp hd
      have := hdp x hx
      have e2 := (hr.mono (show k ≤ k + 2 by omega)).un
      show X.A.units + 1 + 1 + _ < _
      omega
    refine PySem.W.keyH_end (κ := PySem.W.dataKind s'.heap (xs.map kd)) (h₁ := PySem.W.hideAll s'.heap [kS]) (fun b o _ eq => PySem.W.of_hideAll [kS] eq) (PySem.W.hideAll_none [kS] (.head _)) gk ga (Nat.ne_of_gt hkS) hda hsz (by rw [hil]; exact hl) fun h3 tk3 c k3 n3 => ⟨rfl, ?_⟩
    have ko : PySem.W.KeyedOut false (xs.map kd) its (PySem.W.sortVals (PySem.W.dataKind s'.heap (xs.map kd)) false kA.toList its) := ⟨s'.heap, kA.toList, hal, rfl, hrd⟩
    generalize hout : PySem.W.sortVals (PySem.W.dataKind s'.heap (xs.map kd)) false kA.toList its = out at n3 ko
    -- the items with their values
    have each0 : ∀ {us : List Value} {ws : List V} {zs : List α}, Vals ws us → DpAll X.K (hid B H) ws (zs.map enc) → PySem.W.EachIs (fun u (y : α) => ∃ v, RelV v u ∧ Dp X.K (hid B H) v (enc y)) us zs := by
      intro us ws zs r
      induction r generalizing zs with
      | nil => intro z; cases zs with
        | nil => exact .nil
        | cons _ _ => cases z
      | cons r1 r2 ih =>
        intro z
        cases zs with
        | nil => cases z
        | cons y zs =>
          cases z with
          | cons z1 z2 => exact .cons ⟨_, r1, z1⟩ (ih z2)
    have each1 := PySem.W.keyedOut_each kd ko (each0 rv q)
    have back : ∀ {us : List Value} {zs : List α}, PySem.W.EachIs (fun u (y : α) => ∃ v, RelV v u ∧ Dp X.K (hid B H) v (enc y)) us zs → ∃ ws, Vals ws us ∧ DpAll X.K (hid B H) ws (zs.map enc) := by
      intro us zs r
      induction r with
      | nil => exact ⟨[], .nil, .nil⟩
      | cons r1 _ ih =>
        obtain ⟨v, h1, h2⟩ := r1
        obtain ⟨ws, h3, h4⟩ := ih
        exact ⟨v :: ws, .cons h1 h3, .cons h2 h4⟩
    obtain ⟨ws, rw1, dw⟩ := back each1
    have wl : ws.length ≤ sizeLine := by
      rw [dps_len dw, List.length_map, List.length_mergeSort]
      exact hl
    have kp : ∀ b o, b ≠ s.heap.objs.size + 1 → b ≠ kS → s'.heap.get? b = some o → h3.get? b = some o := fun b o n1 n2 eq => k3 b o n1 (PySem.W.hideAll_get [kS] eq (by simpa using n2))
    have nH : H (s.heap.objs.size + 1) = none := I.hok.fresh (Nat.le_succ _)
    have un3 : Un (frs X.stack) [] H (upd H' (s.heap.objs.size + 1) (.lst ws)) s.heap h3 := by
      have u4 : Un (frs X.stack) [] H H' s.heap h3 := un_on un fun b o hb eq => kp b o (Nat.ne_of_lt (by omega)) (Nat.ne_of_lt (by omega)) eq
      have nb : ∀ b o, s.heap.get? b = some o → b ≠ s.heap.objs.size + 1 := fun b o eq => Nat.ne_of_lt (Nat.lt_succ_of_lt (Heap.lt_size eq))
      refine ⟨u4.keep, u4.slot, fun b o eq n hx => by rw [upd_ne (nb b o eq)]; exact u4.free b o eq n hx, u4.there, fun b ys eq => ?_, fun b o y eq => ?_, fun b y eq => ?_⟩
      · rw [upd_ne (ne_of_none eq nH)]
        exact u4.tups b ys eq
      · rw [upd_ne (ne_of_none eq nH)]
        exact u4.frzs b o y eq
      · rw [upd_ne (ne_of_none eq nH)]
        exact u4.tbls b y eq
    have hok3 : HOk X.prog X.w (upd H' (s.heap.objs.size + 1) (.lst ws)) h3 := fun b o eq => by
      by_cases hb : b = s.heap.objs.size + 1
      · subst hb
        rw [upd_same] at eq
        cases eq
        exact ⟨wl, out, c, rw1, n3⟩
      · rw [upd_ne hb] at eq
        refine (hok b o eq).stay (fun c' u z hq => ?_) (fun c' z => by rw [upd_ne (ne_of_none z na)]; exact z) fun c' ys z => by rw [upd_ne (ne_of_none z na)]; exact z
        have t : H' c' ≠ none := by
          rcases z with z | z
          · rw [z, eq]; simp
          · rw [z]; simp
        exact kp c' u (fun z => t (by rw [z]; exact na)) (fun z => t (by rw [z]; exact nk)) hq
    have I3 : Inv X pins σ (upd H' (s.heap.objs.size + 1) (.lst ws)) { s' with heap := h3, toks := tk3 } := I.call' (ch := []) os un3 hok3 bare (fun b z => by cases z)
    refine ⟨.ref _, _, I3, rfl, fin _ ws _ (sm.trans (same_new na)) nH upd_same (dps_mono (fun b o z => ?_) _ dw)⟩
    obtain ⟨z1, z2⟩ := hid_iff.mp z
    have nb : b ≠ s.heap.objs.size + 1 := ne_of_none z2 nH
    exact hid_iff.mpr ⟨fun w => w.elim nb z1, by rw [upd_ne nb]; exact sm b o z2⟩
end
end Mt

set_option maxHeartbeats 2000000
namespace Mt
open PySem PySem.Spec PyProof.Rows L2
section
variable {X : Cx} {a b c e tg iter elt : Expr} {es ifs : List Expr} {Γ : Gm} {d : PyData} {ds ds' : List PyData} {pos p : Pos} {x : Str} {k : Nat} {ps : List Str} {R : List PyData → PyData → Prop}
def rSK {α : Type} (X : Cx) (f : Addr) (xs : List α) (enc kd : α → PyData) : List V → List V → Hp → VK → Prop := fun us zs H Q => ∃ a vs, ∃ B : Addr → Prop, us = [.ref a] ∧ zs = [.ref f] ∧ SqL X.K H a vs ∧ (∀ b, B b → H b ≠ none) ∧ DpAll X.K (hid B H) vs (xs.map enc) ∧
  ∀ p ws H', Same H H' → H p = none → H' p = some (.lst ws) → DpAll X.K (hid (also p B) H') ws ((xs.mergeSort (PySem.W.dataLe false kd)).map enc) → Q (.ref p) H'
/-- sorted(xs, key=f) -/
theorem evf_sortK {α : Type} {fn : Str} {pf pk : Pos} (xs : List α) (enc kd : α → PyData) (F : FnP X.prog X.w X.K X.mg X.base k fn ps (spP X.K R)) (hr : Room (k + 2) X.A) (h1 : ps.length = 1) (hm : X.mg "sorted" = none) (ha : EvP X e Γ (.list (xs.map enc)))
    (hR : ∀ x ∈ xs, R [enc x] (kd x)) (hal : PySem.W.AllAlike (xs.map kd)) (hsk : PySem.W.Sortable (xs.map kd)) (hdp : ∀ x ∈ xs, (kd x).depth ≤ 64) (hl : xs.length ≤ sizeLine) (hg : Gl X "sorted" := by rfl) (hg2 : Gl X fn := by rfl) (hdb2 : (fn == ("__debug__" : Str)) = false := by decide)
    (hs : starEach [e] X.env = (false, eval e X.env) :: starEach [] X.env := by rfl)
    (he : backTo pos (starEach [e] X.env) = (false, eval e X.env) :: backTo pos (starEach [] X.env) := by rfl) (hpl : (backTo pos (starEach [e] X.env)).any (·.1) = false := by rfl)
    (hall : (backToKw pos (keywordEach [⟨some "key", .Name fn pf, pk⟩] X.env)).all (·.1.isSome) = true := by rfl) (hnone : (backToKw pos (keywordEach [⟨some "key", .Name fn pf, pk⟩] X.env)).any (·.1.isNone) = false := by rfl) (hks : (backToKw pos (keywordEach [⟨some "key", .Name fn pf, pk⟩] X.env)).filterMap (·.1) = [Str.ofString "key"] := by rfl) :
    EvF X (.Call (.Name "sorted" p) [e] [⟨some "key", .Name fn pf, pk⟩] pos) Γ ((xs.mergeSort (PySem.W.dataLe false kd)).map enc) := fun B F' σ H Q g q => by
  obtain ⟨f, fd, A, G⟩ := F.ex
  have rule : CallRK X (.builtin "sorted") [Str.ofString "key"] (rSK X f xs enc kd) := fun pins s σ H us zs vs ws Q I r rz h => by
    obtain ⟨a, us', B, rfl, rfl, h1', h2, h3, h4⟩ := h
    obtain rfl := Vals.ref1 r
    obtain ⟨w1, rfl, e1⟩ := vals1 rz
    obtain rfl : w1 = Value.ref f := e1
    exact sort_key_run xs enc kd I h1' A G hr h1 h2 h3 hR hal hsk hdp hl h4
  refine sE_of (pe_callBK rule hg hm (by decide +kernel) (pa_s (es := [e])) (pk_cons (pe_glob (v := .ref f) hg2 A.mg rfl hdb2) pk_nil) (by decide) (by decide) he hpl hall hnone hks) (eva_1 ha hs B F' σ H _ g fun vs H1 s1 q1 => ?_)
  obtain ⟨v, rfl, q2⟩ := dps_one' q1
  obtain ⟨a, us, rfl, h2, h3⟩ := dp_list q2
  refine ⟨a, us, hd B F', rfl, rfl, hid_le.seq h2, own_of g s1, h3, fun p ws H2 s2 n h4 q4 => q p ws H2 (s1.trans s2) (s1.free n) h4 (dps_mono (fun b o z => ?_) _ q4)⟩
  obtain ⟨z1, z2⟩ := hid_iff.mp z
  exact hid_iff.mpr ⟨fun w => z1 (w.elim (fun w => w.elim .inl fun w => .inr (.inl w)) fun w => .inr (.inr w)), z2⟩

/-! ### list(dict([(n, True), ..])) -/
theorem putK_in {kvs : List (Key × V)} {k : Key} (h : k ∈ kvs.map (·.1)) : (putK kvs k (.bl true)).map (·.1) = kvs.map (·.1) := by
  unfold putK
  have e : (kvs.any fun kv => decide (kv.1 = k)) = true := by
    obtain ⟨kv, h1, h2⟩ := List.mem_map.mp h
    exact List.any_eq_true.mpr ⟨kv, h1, decide_eq_true h2⟩
  rw [if_pos e, List.map_map]
  apply List.map_congr_left
  intro kv _
  show (if kv.1 = k then (kv.1, V.bl true) else kv).1 = kv.1
  split <;> rfl
theorem putK_out {kvs : List (Key × V)} {k : Key} (h : k ∉ kvs.map (·.1)) : (putK kvs k (.bl true)).map (·.1) = kvs.map (·.1) ++ [k] := by
  unfold putK
  have e : ¬ (kvs.any fun kv => decide (kv.1 = k)) = true := fun z => by
    obtain ⟨kv, h1, h2⟩ := List.any_eq_true.mp z
    exact h (List.mem_map.mpr ⟨kv, h1, of_decide_eq_true h2⟩)
  rw [if_neg e, List.map_append]
  rfl
/-- the ints of a list, each once, where it first stands -/
def onceL (ns : List Nat) : List Nat := ns.foldl (fun acc n => if n ∈ acc then acc else acc ++ [n]) []
theorem merge_once (ns : List Nat) : ∀ (kvs : List (Key × V)) (acc : List Nat), kvs.map (·.1) = acc.map (fun n => (Sum.inl ((n : Nat) : Int) : Key)) →
    (mergeK kvs (ns.map fun n => ((Sum.inl ((n : Nat) : Int) : Key), V.bl true))).map (·.1) = (ns.foldl (fun acc n => if n ∈ acc then acc else acc ++ [n]) acc).map (fun n => (Sum.inl ((n : Nat) : Int) : Key)) := by
  induction ns with
  | nil => intro kvs acc h; exact h
  | cons n r ih =>
    intro kvs acc h
    show (mergeK (putK kvs (Sum.inl (n : Int)) (V.bl true)) (r.map _)).map (·.1) = _
    rw [ih _ (if n ∈ acc then acc else acc ++ [n]) ?_]
    · rfl
    · have e : (Sum.inl ((n : Nat) : Int) : Key) ∈ acc.map (fun n => (Sum.inl ((n : Nat) : Int) : Key)) ↔ n ∈ acc := by
        rw [List.mem_map]
        constructor
        · rintro ⟨m, h1, h2⟩
          have h3 := Sum.inl.inj h2
          have : m = n := by omega
          rw [← this]
          exact h1
        · intro h
          exact ⟨n, h, rfl⟩
      by_cases hn : n ∈ acc
      · rw [if_pos hn, putK_in (by rw [h]; exact e.mpr hn), h]
      · rw [if_neg hn, putK_out (by rw [h]; exact fun z => hn (e.mp z)), h, List.map_append]
        rfl
theorem evf_listdict {ns : List Nat} {p2 q2 : Pos} (hc : X.calm = true) (hm : X.mg "list" = none) (hm2 : X.mg "dict" = none) (ha : EvP X e Γ (.list (ns.map fun n => PyData.tuple [nt n, .bool true]))) (hg : Gl X "list" := by rfl) (hg2 : Gl X "dict" := by rfl)
    (hs : starEach [e] X.env = (false, eval e X.env) :: starEach [] X.env := by rfl) (hs2 : starEach [.Call (.Name "dict" p2) [e] [] q2] X.env = (false, eval (.Call (.Name "dict" p2) [e] [] q2) X.env) :: starEach [] X.env := by rfl)
    (hpl : (backTo q2 (starEach [] X.env)).any (·.1) = false := by rfl) (hpl2 : (backTo pos (starEach [] X.env)).any (·.1) = false := by rfl) :
    EvF X (.Call (.Name "list" p) [.Call (.Name "dict" p2) [e] [] q2] [] pos) Γ ((onceL ns).map nt) := fun B F σ H Q g k => by
  refine sE_of (pe_callTy (call_list_dK hc) hg hm boot_list (pa_cons (pe_callTy (call_dictP hc) hg2 hm2 (by decide +kernel) (pa_s (es := [e])) (by decide) (by decide) hs hpl) pa_nil hs2) (by decide) (by decide) hs2 hpl2) (eva_1 ha hs B F σ H _ g fun vs H1 s1 q => ?_)
  obtain ⟨v, rfl, q1⟩ := dps_one' q
  obtain ⟨a, ws, rfl, h1, h2⟩ := dp_list q1
  have pr : ∀ (ns : List Nat) (ws : List V), DpAll X.K (hid (hd B F) H1) ws (ns.map fun n => PyData.tuple [nt n, .bool true]) → ∃ as : List Addr, ws = as.map V.ref ∧ Paired (fun p (kv : Key × V) => SqT X.K H1 p [kV kv.1, kv.2]) as (ns.map fun n => ((Sum.inl ((n : Nat) : Int) : Key), V.bl true)) := by
    intro ns
    induction ns with
    | nil => intro ws h; cases h; exact ⟨[], rfl, .nil⟩
    | cons n r ih =>
      intro ws h
      cases h with
      | cons h1 h2 =>
        obtain ⟨a, us, rfl, t1, t2⟩ := dp_tuple h1
        obtain ⟨as, rfl, hp⟩ := ih _ h2
        cases t2 with
        | cons u1 t2 =>
          obtain ⟨u, rfl, u2⟩ := dps_one' t2
          rw [dp_int u1, dp_bool u2] at t1
          exact ⟨a :: as, rfl, .cons (same_seqT hid_le t1) hp⟩
  obtain ⟨as, rfl, hp⟩ := pr ns ws h2
  refine ⟨a, as, _, rfl, hid_le.seq h1, hp, fun t ht => ?_⟩
  refine ⟨t, _, rfl, upd_same, fun l hl => ?_⟩
  have s2 : Same H1 (upd H1 t (.dK (mergeK [] (ns.map fun n => ((Sum.inl ((n : Nat) : Int) : Key), V.bl true))))) := same_new ht
  refine evf_laid g k (s1.trans s2) ?_ l hl
  have em := merge_once ns [] [] rfl
  have e2 : (mergeK [] (ns.map fun n => ((Sum.inl ((n : Nat) : Int) : Key), V.bl true))).map (fun kv => kV kv.1) = (onceL ns).map (fun n => V.int (n : Nat)) := by
    have : (mergeK [] (ns.map fun n => ((Sum.inl ((n : Nat) : Int) : Key), V.bl true))).map (fun kv => kV kv.1) = ((mergeK [] (ns.map fun n => ((Sum.inl ((n : Nat) : Int) : Key), V.bl true))).map (·.1)).map kV := by rw [List.map_map] <;> rfl
    rw [this, em, List.map_map]
    rfl
  rw [e2]
  have : ∀ l : List Nat, DpAll X.K (hid (hd B F) (upd H1 t (.dK (mergeK [] (ns.map fun n => ((Sum.inl ((n : Nat) : Int) : Key), V.bl true)))))) (l.map fun n => V.int (n : Nat)) (l.map nt) := fun l => by
    induction l with
    | nil => exact .nil
    | cons x r ih => exact .cons (.int _) ih
  exact this _

/-! ### f(k1=e1, k2=e2) -/
/-- the def at x takes its two parameters, the other way round, by keywords -/
structure AtK (mg : Str → Option Value) (x : Str) (p1 p2 : Str) (fd : FuncData) : Prop where
  bk : ∀ (s : Shared) (u1 u2 : Value), BindsTo s fd ⟨[], [(p2, u1), (p1, u2)]⟩ [(p1, u2), (p2, u1)]
structure FnK (P : Program) (w : World) (K : PySem.W.Frag) (mg : Str → Option Value) (base : Heap) (k : Nat) (x p1 p2 : Str) (sp : Sp) : Prop where
  ex : ∃ f fd, At K mg x [p1, p2] f fd ∧ AtK mg x p1 p2 fd ∧ FnOk P w K mg base CX0 k f fd [p1, p2] sp
theorem evp_callK2 {p1 p2 : Str} {d1 d2 : PyData} {k1 k2 : Pos} (F : FnK X.prog X.w X.K X.mg X.base k x p1 p2 (spP X.K R)) (hr : Room k X.A) (hR : R [d2, d1] d) (ha : EvP X a Γ d1) (hb : EvP X b Γ d2) (hg : Gl X x := by rfl) (hdb : (x == ("__debug__" : Str)) = false := by decide)
    (hall : (backToKw pos (keywordEach [⟨some p2, a, k1⟩, ⟨some p1, b, k2⟩] X.env)).all (·.1.isSome) = true := by rfl) (hks : (backToKw pos (keywordEach [⟨some p2, a, k1⟩, ⟨some p1, b, k2⟩] X.env)).filterMap (·.1) = [p2, p1] := by rfl)
    (hpl : ((backTo pos (starEach [] X.env)).any (·.1) || (backToKw pos (keywordEach [⟨some p2, a, k1⟩, ⟨some p1, b, k2⟩] X.env)).any (·.1.isNone)) = false := by rfl) :
    EvP X (.Call (.Name x p) [] [⟨some p2, a, k1⟩, ⟨some p1, b, k2⟩] pos) Γ d := fun B F' σ H Q g q => by
  obtain ⟨f, fd, A, Ak, G⟩ := F.ex
  intro pins s I
  refine wpAny_Call_Name_kw (ld_glob I hg A.mg ?_ hdb)
  refine PySem.W.callWith_KW0 (h₀ := X.base) I.ok.mod.kin A.kp hall ?_ hpl
  refine thn ((pk_cons (pe_s (e := a)) (pk_cons (pe_s (e := b)) pk_nil)).run pos pins s σ H (fun zs H2 => ∃ v u, zs = [v, u] ∧ Same H H2 ∧ Dp X.K (hid (hd B F') H2) v d1 ∧ Dp X.K (hid (hd B F') H2) u d2) I (ha B F' σ H _ g fun v H1 s1 q1 => hb B F' σ H1 _ (g.grow s1) fun u H2 s2 q2 => ⟨v, u, rfl, s1.trans s2, dp_mono (hid_same s2) _ q1, q2⟩)) fun ws s2 ⟨zs, H2, I2, rz, v, u, e1, sm, q1, q2⟩ => ⟨I2.kIn, ?_⟩
  subst e1
  rw [hks]
  obtain ⟨w1, w2, rfl, r1, r2⟩ := vals2 rz
  refine wpAny_call (codeAny_mono (G.run X.A X.stack s2 H2 ⟨[], [(p2, w1), (p1, w2)]⟩ [w2, w1] [u, v] Q E0 hr I2.env0 (Ak.bk s2 w1 w2) (.cons r2 (.cons r1 .nil)) ⟨[d2, d1], d, hd B F', hR, own_of g sm, .cons q2 (.cons q1 .nil), fun v H3 s3 q3 => q v H3 (sm.trans s3) q3⟩) fun r s' hq => ?_)
  cases r with
  | error e => exact hq.elim
  | ok fl =>
    cases fl with
    | ret u => exact I2.after hq
    | next => exact False.elim hq
    | brk => exact False.elim hq
    | cont => exact False.elim hq

/-! ### repr -/
theorem call_reprD (hg : X.A.guards = some []) : CallR X (.builtin "repr") (fun xs H Q => ∃ a d, xs = [.ref a] ∧ Dp X.K H (.ref a) d ∧ d.showable = true ∧ d.hasDict = false ∧ X.A.units + (d.depth + 1) < cLine ∧ d.shown.length ≤ sizeLine ∧ Q (.str d.shown) H) := fun pins s σ H xs us Q I r h => by
  obtain ⟨a, d, rfl, hd, h1, h2, h3, h4, q⟩ := h
  obtain rfl := Vals.ref1 r
  obtain ⟨as, rd⟩ := L2.Dp.reads I d _ _ (dp_up _ hd) (show RelV (.ref a) (.ref a) from rfl)
  exact repr_of_reads' rd h1 (PyData.noDict_hsm h2) hg h3 (fun _ _ e => e) (fun h' u tk hk => ⟨.str d.shown, H, I.kept hk, ⟨_, rfl⟩, q⟩) h4
theorem evp_repr (hg : X.A.guards = some []) (hu : X.A.units + 64 < cLine) (hm : X.mg "repr" = none) (ha : EvP X e Γ d) (hd : (∃ ds, d = .list ds) ∨ ∃ ds, d = .tuple ds) (h1 : d.showable = true) (h2 : d.hasDict = false) (h3 : d.depth ≤ 60) (h4 : d.shown.length ≤ sizeLine)
    (hgl : Gl X "repr" := by rfl) (hs : starEach [e] X.env = (false, eval e X.env) :: starEach [] X.env := by rfl) : EvP X (.Call (.Name "repr" p) [e] [] pos) Γ (.str d.shown) :=
  evp_cb (call_reprD hg) hm (by decide +kernel) (eva_1 ha hs) (fun B vs H Q own q k => by
    obtain ⟨v, rfl, q1⟩ := dps_one' q
    obtain ⟨a, rfl⟩ : ∃ a, v = .ref a := by
      rcases hd with ⟨ds, rfl⟩ | ⟨ds, rfl⟩
      · obtain ⟨a, _, e, _⟩ := dp_list q1
        exact ⟨a, e⟩
      · obtain ⟨a, _, e, _⟩ := dp_tuple q1
        exact ⟨a, e⟩
    exact ⟨a, d, rfl, dp_mono hid_le _ q1, h1, h2, by omega, h4, k _ H (Same.refl _) (.str _)⟩) hgl (he := hs)
end
end Mt

set_option maxHeartbeats 2000000
namespace Mt
open PySem PySem.Spec PyProof.Rows L2

/-! ### a def's promise where no repr is under way around it -/
structure FnG (P : Program) (w : World) (K : PySem.W.Frag) (mg : Str → Option Value) (base : Heap) (k : Nat) (f : Addr) (fd : FuncData) (ps : List Str) (sp : Sp) : Prop where
  len : ∀ vs H Q E, sp vs H Q E → vs.length = ps.length
  run : ∀ (A : Around) (outer : List Env) (s : Shared) (H : Hp) (args : Args) (us : List Value) (vs : List V) (Q : VK), Room k A → A.guards = some [] → Env0 P w K mg base A outer s H → BindsTo s fd args (ps.zip us) → Vals vs us → sp vs H Q E0 →
    codeAny (model P w) A (.call (.ref f) args) (CR CX0 outer P w H s Q E0) s
section
variable {P : Program} {w : World} {K : PySem.W.Frag} {mg : Str → Option Value} {base : Heap}
theorem fun_ofG {x qual : Str} {st : Stmt} {f : Addr} {fd : FuncData} {N ps : List Str} {k : Nat} {sp : Sp} (F : Fun K x qual st f fd) (S : FnScope N ps (defScope st)) (len : ∀ vs H Q E, sp vs H Q E → vs.length = ps.length)
    (hbody : ∀ (cdv : Value) (A : Around) (outer : List Env) (s : Shared) (H : Hp) (vs : List V) (Q : VK), Room k (A.deeper (envOfC qual (defScope st) s.heap.objs.size f cdv)) → A.guards = some [] → sp vs H Q E0 →
      sB (Cb P w K mg base N qual st f cdv A outer s H E0) (defBody st) { nx := fun _ H' => Q .non H', rt := Q } (L2.start N vs) H) : FnG P w K mg base (k + 1) f fd ps sp := by
  obtain ⟨oc, od, kV, doc, pm, an, cdv, ct, osl, rfl, lk, hcd⟩ := F.ex
  refine ⟨len, fun A outer s H args us vs Q hr hg e0 hb r hsp => ?_⟩
  have KX : K.In s.heap := e0.mod.kin.keeps fun b o e => (e0.bs b o e).1
  have hkd : ∀ y ∈ ps.zip us, (defScope st).names.lookup y.1 = some .local ∨ ((defScope st).names.lookup y.1 = some .cell ∧ ((cellsFrom (s.heap.objs.size + 1) (defScope st).names []).lookup y.1).isSome = true) := fun y hy => by
    obtain ⟨n, u⟩ := y
    exact (S.par n (List.of_mem_zip hy).1).imp_right fun q => ⟨q, PySem.W.cellsFrom_some _ _ _ (.inl q)⟩
  refine codeAny_call_function hr.depth (KX _ _ lk) rfl S.co S.gen rfl (PySem.W.codeRec_of KX hcd) (hb _ _ _ _ (wpAny_newFunctionEnv_cells S.kind hkd fun env he s1 x => ?_))
  subst he
  refine ⟨(e0.mod.nolimit.keeps fun b o e => (e0.bs b o e).1).keeps x.toInCall.keep, codeAny_func ?_⟩
  have J : Inv (cxOf CX0 P w K mg base N qual (defScope st) f cdv A outer s H E0) [] (L2.start N vs) H s1 := inv_start S hr.hd e0 (len _ _ _ _ hsp) r x
  refine wpAny_mono ((pb_s.nox).run [] s1 (L2.start N vs) H _ J (hbody cdv A outer s H vs Q (hr.deeper _) hg hsp)) (fun fl s' hs => ?_) fun e s' hs => hs
  cases fl with
  | ret u =>
    obtain ⟨v, σ', H', J', rv, q⟩ := hs
    exact ⟨v, H', J'.os, J'.bare, J'.base, J'.hok, rv, q⟩
  | next =>
    obtain ⟨σ', H', J', q⟩ := hs
    exact ⟨.non, H', J'.os, J'.bare, J'.base, J'.hok, rfl, q⟩
  | brk =>
    obtain ⟨_, _, _, q⟩ := hs
    exact q.elim
  | cont =>
    obtain ⟨_, _, _, q⟩ := hs
    exact q.elim
end
structure FnPG (P : Program) (w : World) (K : PySem.W.Frag) (mg : Str → Option Value) (base : Heap) (k : Nat) (x : Str) (ps : List Str) (sp : Sp) : Prop where
  ex : ∃ f fd, At K mg x ps f fd ∧ FnG P w K mg base k f fd ps sp

/-! ### the spring -/
/-- how many draws there may be -/
abbrev many : Nat := 1000000000
def F1 (a g kn : Addr) : Nat → List Addr := fun i => if i = 0 then [a, g, kn] else []
/-- the promise of a def whose first argument is the spring: at most c draws -/
def spS (K : PySem.W.Frag) (c : Nat) (Pre : List PyData → Prop) (Post : List PyData → PyData → Prop) : Sp := fun vs H Q _ => ∃ a g kn n ds ws, ∃ B : Addr → Prop, vs = .ref a :: ws ∧ Spr H a g kn n ∧ n + c ≤ many ∧ Pre ds ∧ (∀ b, B b → H b ≠ none) ∧ (∀ b ∈ [a, g, kn], ¬ B b) ∧
  DpAll K (hid (hd B (F1 a g kn)) H) ws ds ∧ ∀ v H' g' kn' d, Step (F1 a g kn) H (F1 a g' kn') H' → Spr H' a g' kn' (n + c) → (∀ b ∈ [a, g', kn'], ¬ B b) → Dp K (hid (hd B (F1 a g' kn')) H') v d → Post ds d → Q v H'
/-- the entry of such a def -/
def startS (N : List Str) (a : Addr) (n : Nat) (ds : List PyData) : Gm := some (.s a n) :: (ds.map (fun d => some (.d d)) ++ List.replicate (N.length - (ds.length + 1)) none)
theorem spr_trk {H : Hp} {a g kn : Addr} {n : Nat} (h : Spr H a g kn n) : ∀ b ∈ [a, g, kn], H b ≠ none := fun b hb => by
  obtain ⟨_, _, _, gs, ks, sm, m, e1, e2, e3, _⟩ := h
  simp only [List.mem_cons, List.not_mem_nil, or_false] at hb
  rcases hb with rfl | rfl | rfl
  · rw [e1]; simp
  · rw [e2]; simp
  · rw [e3]; simp
theorem gok_startS {K : PySem.W.Frag} {B : Addr → Prop} {H : Hp} {N : List Str} {a g kn : Addr} {n : Nat} {ws : List V} {ds : List PyData} (sp : Spr H a g kn n) (own : ∀ b, B b → H b ≠ none) (nb : ∀ b ∈ [a, g, kn], ¬ B b) (h : DpAll K (hid (hd B (F1 a g kn)) H) ws ds) :
    GOk K B (F1 a g kn) H (L2.start N (.ref a :: ws)) (startS N a n ds) := by
  have hl := dps_len h
  have f0 : ∀ i b, b ∈ F1 a g kn i → i = 0 ∧ b ∈ [a, g, kn] := fun i b z => by
    unfold F1 at z
    by_cases hi : i = 0
    · rw [if_pos hi] at z
      exact ⟨hi, z⟩
    · rw [if_neg hi] at z
      cases z
  refine ⟨?_, fun i j b z1 z2 => by rw [(f0 i b z1).1, (f0 j b z2).1], fun i b z => nb b (f0 i b z).2, fun b z => ?_, fun i e h1 => ?_, fun i hi => ?_⟩
  · unfold L2.start startS
    simp [hl]
  · rcases z with z | ⟨i, z⟩
    · exact own b z
    · exact spr_trk sp b (f0 i b z).2
  · unfold startS at h1
    cases i with
    | zero =>
      cases h1
      exact ⟨.ref a, rfl, rfl, g, kn, rfl, sp⟩
    | succ i =>
      rw [List.getElem?_cons_succ] at h1
      by_cases hi : i < ds.length
      · rw [List.getElem?_append_left (by simpa using hi), List.getElem?_map] at h1
        cases e1 : ds[i]? with
        | none => rw [e1] at h1; cases h1
        | some d =>
          rw [e1] at h1
          cases h1
          obtain ⟨v, h2, h3⟩ := dps_get h e1
          refine ⟨v, ?_, h3⟩
          unfold L2.start
          rw [List.map_cons, List.cons_append, List.getElem?_cons_succ, List.getElem?_append_left (by simpa [hl] using hi), List.getElem?_map, h2] <;> rfl
      · rw [List.getElem?_append_right (by simpa using hi), List.getElem?_replicate] at h1
        split at h1 <;> cases h1
  · cases i with
    | zero => cases hi
    | succ i => rfl
/-- what is wanted of a body of such a def -/
def outS (a : Addr) (m : Nat) (P : PyData → Prop) : Out := { N := fun Γ => (∃ n, n ≤ m ∧ Γ[0]? = some (some (.s a n))) ∧ P .none, R := fun d Γ => (∃ n, n ≤ m ∧ Γ[0]? = some (some (.s a n))) ∧ P d }
theorem out_spr {K : PySem.W.Frag} {B : Addr → Prop} {F' : Nat → List Addr} {H H' : Hp} {σ' : L2.St} {Γ' : Gm} {a g kn : Addr} {n m c : Nat} {v : V} {d : PyData} {Q : VK} {Post : PyData → Prop}
    (h4 : ∀ v H' g' kn' d, Step (F1 a g kn) H (F1 a g' kn') H' → Spr H' a g' kn' (n + c) → (∀ b ∈ [a, g', kn'], ¬ B b) → Dp K (hid (hd B (F1 a g' kn')) H') v d → Post d → Q v H')
    (s : Step (F1 a g kn) H F' H') (g' : GOk K B F' H' σ' Γ') (hm : m ≤ n + c) (h0 : Γ'[0]? = some (some (.s a m))) (q : Dp K (hid (hd B F') H') v d) (z : Post d) : Q v H' := by
  obtain ⟨v0, _, e1, g1, kn1, e2, sp⟩ := g'.ent 0 _ h0
  refine h4 v H' g1 kn1 d ⟨s.keep, fun i b hb => ?_, s.trk⟩ (sp.mono hm) (fun b hb => g'.out 0 b (by rw [e2]; exact hb)) (dp_mono (fun b o r => ?_) _ q) z
  · unfold F1 at hb
    by_cases hi : i = 0
    · rw [if_pos hi, ← e2] at hb
      exact s.new 0 b hb
    · rw [if_neg hi] at hb
      cases hb
  · obtain ⟨r1, r2⟩ := hid_iff.mp r
    refine hid_iff.mpr ⟨fun w => ?_, r2⟩
    rcases w with w | ⟨i, w⟩
    · exact r1 (.inl w)
    · unfold F1 at w
      by_cases hi : i = 0
      · rw [if_pos hi, ← e2] at w
        exact r1 (.inr ⟨0, w⟩)
      · rw [if_neg hi] at w
        cases w
section
variable {P : Program} {w : World} {K : PySem.W.Frag} {mg : Str → Option Value} {base : Heap}
theorem spr_body {X : Cx} {N : List Str} {sts : List Stmt} {vs : List V} {H : Hp} {Q : VK} {c : Nat} {Pre : List PyData → Prop} {Post : List PyData → PyData → Prop}
    (hb : ∀ a n ds, n + c ≤ many → Pre ds → Ex X sts (startS N a n ds) (outS a (n + c) (Post ds))) (h : spS X.K c Pre Post vs H Q E0) : sB X sts { nx := fun _ H' => Q .non H', rt := Q } (L2.start N vs) H := by
  obtain ⟨a, g, kn, n, ds, ws, B, rfl, sp, hn, hp, own, nb, hq, h4⟩ := h
  exact hb a n ds hn hp B (F1 a g kn) _ H _ (gok_startS sp own nb hq) ⟨fun F' σ' H' Γ' s g' ⟨⟨m, hm, h0⟩, z⟩ => out_spr h4 s g' hm h0 .non z, fun v F' σ' H' Γ' d s g' q ⟨⟨m, hm, h0⟩, z⟩ => out_spr h4 s g' hm h0 q z, fun _ _ _ _ _ _ q => q.elim, fun _ _ _ _ _ _ q => q.elim⟩
theorem fun_spr {x qual : Str} {st : Stmt} {f : Addr} {fd : FuncData} {N ps : List Str} {k c : Nat} {Pre : List PyData → Prop} {Post : List PyData → PyData → Prop} (F : Fun K x qual st f fd) (S : FnScope N ps (defScope st)) (hl : ∀ ds, Pre ds → ds.length + 1 = ps.length)
    (hb : ∀ (cdv : Value) (A : Around) (outer : List Env) (s : Shared) (H : Hp) (E : XK), Room k (A.deeper (envOfC qual (defScope st) s.heap.objs.size f cdv)) → ∀ a n ds, n + c ≤ many → Pre ds → Ex (Cb P w K mg base N qual st f cdv A outer s H E) (defBody st) (startS N a n ds) (outS a (n + c) (Post ds))) :
    FnOk P w K mg base CX0 (k + 1) f fd ps (spS K c Pre Post) := by
  refine F.ok S (fun vs H Q E ⟨a, g, kn, n, ds, ws, B, e, _, _, hp, _, _, h3, _⟩ => by rw [e, List.length_cons, dps_len h3]; exact hl ds hp) (fun cdv A outer s H vs Q E hr h => ?_)
  exact ⟨sB _ (defBody st), pb_s, spr_body (X := Cb P w K mg base N qual st f cdv A outer s H E) (hb cdv A outer s H E hr) h⟩
theorem fun_sprG {x qual : Str} {st : Stmt} {f : Addr} {fd : FuncData} {N ps : List Str} {k c : Nat} {Pre : List PyData → Prop} {Post : List PyData → PyData → Prop} (F : Fun K x qual st f fd) (S : FnScope N ps (defScope st)) (hl : ∀ ds, Pre ds → ds.length + 1 = ps.length)
    (hb : ∀ (cdv : Value) (A : Around) (outer : List Env) (s : Shared) (H : Hp) (E : XK), Room k (A.deeper (envOfC qual (defScope st) s.heap.objs.size f cdv)) → A.guards = some [] → ∀ a n ds, n + c ≤ many → Pre ds → Ex (Cb P w K mg base N qual st f cdv A outer s H E) (defBody st) (startS N a n ds) (outS a (n + c) (Post ds))) :
    FnG P w K mg base (k + 1) f fd ps (spS K c Pre Post) :=
  fun_ofG F S (fun vs H Q E ⟨a, g, kn, n, ds, ws, B, e, _, _, hp, _, _, h3, _⟩ => by rw [e, List.length_cons, dps_len h3]; exact hl ds hp) (fun cdv A outer s H vs Q hr hg h => spr_body (X := Cb P w K mg base N qual st f cdv A outer s H E0) (hb cdv A outer s H E0 hr hg) h)
theorem fun_pureG {x qual : Str} {st : Stmt} {f : Addr} {fd : FuncData} {N ps : List Str} {k : Nat} {R : List PyData → PyData → Prop} (F : Fun K x qual st f fd) (S : FnScope N ps (defScope st)) (hl : ∀ ds d, R ds d → ds.length = ps.length)
    (hb : ∀ (cdv : Value) (A : Around) (outer : List Env) (s : Shared) (H : Hp) (E : XK), Room k (A.deeper (envOfC qual (defScope st) s.heap.objs.size f cdv)) → A.guards = some [] → ∀ ds d, R ds d → Ex (Cb P w K mg base N qual st f cdv A outer s H E) (defBody st) (start0 N ds) (outP d)) :
    FnG P w K mg base (k + 1) f fd ps (spP K R) := by
  refine fun_ofG F S (fun vs H Q E ⟨ds, d, B, h1, h2, h3, h4⟩ => by rw [dps_len h3]; exact hl ds d h1) (fun cdv A outer s H vs Q hr hg ⟨ds, d, B, h1, h2, h3, h4⟩ => ?_)
  refine hb cdv A outer s H E0 hr hg ds d h1 B (fun _ => []) (L2.start N vs) H _ (gok_start h2 h3) ⟨fun F' σ' H' Γ' s g' e => ?_, fun v F' σ' H' Γ' d' s g' q e => ?_, fun _ _ _ _ _ _ q => q.elim, fun _ _ _ _ _ _ q => q.elim⟩
  · exact h4 _ H' (fun b o q => s.keep b o q fun i z => (nomatch z)) (by rw [show d = PyData.none from e]; exact .non)
  · obtain rfl : d' = d := e
    refine h4 v H' (fun b o q => s.keep b o q fun i z => (nomatch z)) (dp_mono (fun b o q => ?_) _ q)
    obtain ⟨q1, q2⟩ := hid_iff.mp q
    exact hid_iff.mpr ⟨fun z => q1 (.inl z), q2⟩
end

section
variable {X : Cx} {a b c e tg iter elt : Expr} {es ifs : List Expr} {Γ : Gm} {d : PyData} {ds ds' : List PyData} {pos p : Pos} {x y : Str} {k cc j : Nat} {ps : List Str} {R : List PyData → PyData → Prop} {Pre : List PyData → Prop} {Post : List PyData → PyData → Prop} {P : PyData → Gm → Prop}
/-- run such a def: the spring stands at the slot j -/
theorem spr_call {F : Nat → List Addr} {B : Addr → Prop} {H : Hp} {σ : L2.St} {ad : Addr} {n : Nat} {ws : List V} {Q : VK} (g : GOk X.K B F H σ Γ) (hj : Γ[j]? = some (some (.s ad n))) (hn : n + cc ≤ many) (hp : Pre ds) (q : DpAll X.K (hid (hd B F) H) ws ds)
    (k : ∀ v H' F' d, Step F H F' H' → GOk X.K B F' H' σ (Γ.set j (some (.s ad (n + cc)))) → Dp X.K (hid (hd B F') H') v d → Post ds d → Q v H') : spS X.K cc Pre Post (.ref ad :: ws) H Q E0 := by
  obtain ⟨v0, h1, e1, g1, kn1, e2, sp⟩ := g.ent j _ hj
  -- what the callee's callers hide
  let B2 : Addr → Prop := fun b => hd B F b ∧ b ∉ [ad, g1, kn1]
  have hB : ∀ b, hd B2 (F1 ad g1 kn1) b ↔ hd B F b := fun b => by
    constructor
    · rintro (⟨z, _⟩ | ⟨i, z⟩)
      · exact z
      · unfold F1 at z
        by_cases hi : i = 0
        · rw [if_pos hi, ← e2] at z
          exact .inr ⟨j, z⟩
        · rw [if_neg hi] at z
          cases z
    · intro z
      by_cases hb : b ∈ [ad, g1, kn1]
      · exact .inr ⟨0, hb⟩
      · exact .inl ⟨z, hb⟩
  refine ⟨ad, g1, kn1, n, ds, ws, B2, rfl, sp, hn, hp, fun b z => g.own b z.1, fun b hb z => z.2 hb, dps_mono (fun b o r => ?_) _ q, fun v H' g' kn' d s sp' nb q' z => ?_⟩
  · obtain ⟨r1, r2⟩ := hid_iff.mp r
    exact hid_iff.mpr ⟨fun w => r1 ((hB b).mp w), r2⟩
  · -- the spring's new things
    have f1 : ∀ i b, b ∈ F1 ad g1 kn1 i → b ∈ F j := fun i b z => by
      unfold F1 at z
      by_cases hi : i = 0
      · rw [if_pos hi, ← e2] at z
        exact z
      · rw [if_neg hi] at z
        cases z
    have nn : ∀ b ∈ [ad, g', kn'], b ∈ F j ∨ H b = none := fun b hb => by
      rcases s.new 0 b (by unfold F1; exact hb) with ⟨i, z⟩ | z
      · exact .inl (f1 i b z)
      · exact .inr z
    have keep : ∀ b o, H b = some o → b ∉ F j → H' b = some o := fun b o e n => s.keep b o e fun i z => n (f1 i b z)
    have apart : ∀ i b, i ≠ j → b ∈ F i → b ∉ [ad, g', kn'] := fun i b hi hb z => by
      rcases nn b z with w | w
      · exact hi (g.dj i j b hb w)
      · exact g.own b (.inr ⟨i, hb⟩) w
    have hd' : ∀ b, hd B (upF F j [ad, g', kn']) b → hd B2 (F1 ad g' kn') b := fun b z => by
      by_cases hb : b ∈ [ad, g', kn']
      · exact .inr ⟨0, hb⟩
      · rcases z with z | ⟨i, z⟩
        · exact .inl ⟨.inl z, fun w => g.out j b (by rw [e2]; exact w) z⟩
        · rcases upF_mem z with ⟨_, z⟩ | ⟨hi, z⟩
          · exact absurd z hb
          · exact .inl ⟨.inr ⟨i, z⟩, fun w => hi (g.dj i j b z (by rw [e2]; exact w))⟩
    have st : Step F H (upF F j [ad, g', kn']) H' := by
      refine ⟨fun b o e n => keep b o e (n j), fun i b z => ?_, s.trk⟩
      rcases upF_mem z with ⟨_, z⟩ | ⟨_, z⟩
      · rcases nn b z with w | w
        · exact .inl ⟨j, w⟩
        · exact .inr w
      · exact .inl ⟨i, z⟩
    have same : ∀ i b, i ≠ j → b ∈ F i → H' b = H b := fun i b hi hb => by
      cases r : H b with
      | none => exact absurd r (g.own b (.inr ⟨i, hb⟩))
      | some o => exact keep b o r fun w => hi (g.dj i j b hb w)
    refine k v H' (upF F j [ad, g', kn']) d st ⟨by rw [List.length_set]; exact g.ls, fun i i' b z1 z2 => ?_, fun i b z => ?_, fun b z => ?_, fun i e h => ?_, fun i h => ?_⟩ (dp_mono (fun b o r => ?_) _ q') z
    · rcases upF_mem z1 with ⟨i1, z1⟩ | ⟨i1, z1⟩
      · rcases upF_mem z2 with ⟨i2, z2⟩ | ⟨i2, z2⟩
        · rw [i1, i2]
        · exact absurd z1 (apart i' b i2 z2)
      · rcases upF_mem z2 with ⟨i2, z2⟩ | ⟨i2, z2⟩
        · exact absurd z2 (apart i b i1 z1)
        · exact g.dj i i' b z1 z2
    · rcases upF_mem z with ⟨_, z⟩ | ⟨_, z⟩
      · intro w
        rcases nn b z with r | r
        · exact g.out j b r w
        · exact g.own b (.inl w) r
      · exact g.out i b z
    · rcases z with z | ⟨i, z⟩
      · exact s.trk b (g.own b (.inl z))
      · rcases upF_mem z with ⟨_, z⟩ | ⟨_, z⟩
        · exact spr_trk sp' b z
        · exact s.trk b (g.own b (.inr ⟨i, z⟩))
    · by_cases hi : j = i
      · subst hi
        rw [List.getElem?_set_self (List.getElem?_eq_some_iff.mp hj).1] at h
        cases h
        exact ⟨v0, h1, e1, g', kn', upF_same, sp'⟩
      · rw [List.getElem?_set_ne hi] at h
        obtain ⟨u, h5, h6⟩ := g.ent i e h
        refine ⟨u, h5, ?_⟩
        rw [upF_ne (Ne.symm hi)]
        exact h6.mono st.stab fun b hb => same i b (Ne.symm hi) hb
    · by_cases hi : j = i
      · subst hi
        unfold nOwn at h
        rw [List.getElem?_set_self (List.getElem?_eq_some_iff.mp hj).1] at h
        cases h
      · rw [nOwn_ne hi] at h
        rw [upF_ne (Ne.symm hi)]
        exact g.nil i h
    · obtain ⟨r1, r2⟩ := hid_iff.mp r
      exact hid_iff.mpr ⟨fun w => r1 (hd' b w), r2⟩
/-- f(spring, ..) -/
theorem ev_callS {px : Pos} (F : FnP X.prog X.w X.K X.mg X.base k x ps (spS X.K cc Pre Post)) (hr : Room k X.A) (j : Nat) {ad : Addr} {n : Nat} (hj : Γ[j]? = some (some (.s ad n)))
    (ha : EvAe X es Γ fun ds Γ' => ∃ m, Γ'[j]? = some (some (.s ad m)) ∧ m + cc ≤ many ∧ Pre ds ∧ ∀ d, Post ds d → P d (Γ'.set j (some (.s ad (m + cc))))) (hg : Gl X x := by rfl) (hdb : (x == ("__debug__" : Str)) = false := by decide)
    (hN : X.N[j]? = some y := by rfl) (hv : Vis X.env.scope y := by first | exact Or.inl rfl | exact Or.inr (Or.inl rfl) | exact Or.inr (Or.inr rfl)) (hd1 : (y == ("__debug__" : Str)) = false := by decide) (hcd : (y == ("__classdict__" : Str)) = false := by decide)
    (he : starEach (.Name y px :: es) X.env = (false, eval (.Name y px) X.env) :: starEach es X.env := by rfl) (hpl : (backTo pos (starEach es X.env)).any (·.1) = false := by rfl) : Ev X (.Call (.Name x p) (.Name y px :: es) [] pos) Γ P := fun B F' σ H Q g q => by
  obtain ⟨f, fd, A, G⟩ := F.ex
  obtain ⟨v0, h1, e1, _⟩ := g.ent j _ hj
  refine sE_of (pe_call G hr hg A.mg A.kp A.b .nil pass0 (pa_cons (pe_var hN hv hd1 hcd) (pa_s (es := es)) he) hdb he hpl) ⟨v0, h1, ?_⟩
  refine ha B F' σ H _ g fun ws H1 F2 Γ1 ds s1 g1 q1 ⟨m, hm, hn, hp, z⟩ => ?_
  show spS X.K cc Pre Post ((v0 :: ws) ++ []) H1 Q E0
  rw [List.append_nil, e1]
  exact spr_call g1 hm hn hp q1 fun v H2 F3 d s2 g2 q2 w => q v H2 F3 _ d (s1.trans s2) g2 q2 (z d w)
/-- .. of a def that shows data by repr -/
theorem run_fnG {f : Addr} {fd : FuncData} {sp : Sp} {pins : List (Addr × Obj)} {σ : L2.St} {H : Hp} {s : Shared} {Q : VK} {us : List Value} {vs : List V} (G : FnG X.prog X.w X.K X.mg X.base k f fd ps sp) (hr : Room k X.A) (hgd : X.A.guards = some []) (hb : Binds X.K fd ps [])
    (I : Inv X pins σ H s) (r : Vals vs us) (h : sp vs H Q E0) : wpAny (model X.prog X.w) X.A (call (.ref f) us) (EP X pins σ Q) X.xe s := by
  have b := hb s us I.kIn (by rw [List.append_nil, ← r.length]; exact G.len _ _ _ _ h)
  rw [List.append_nil] at b
  refine wpAny_call (codeAny_mono (G.run X.A X.stack s H ⟨us, []⟩ us vs Q hr hgd I.env0 b r h) fun r s' hq => ?_)
  cases r with
  | error e => exact hq.elim
  | ok fl =>
    cases fl with
    | ret u => exact I.after hq
    | next => exact False.elim hq
    | brk => exact False.elim hq
    | cont => exact False.elim hq
theorem pe_callG {f : Addr} {fd : FuncData} {sp : Sp} {t : TA} (G : FnG X.prog X.w X.K X.mg X.base k f fd ps sp) (A : At X.K X.mg x ps f fd) (hr : Room k X.A) (hgd : X.A.guards = some []) (ha : PA X (e :: es) t) (hg : Gl X x) (hdb : (x == ("__debug__" : Str)) = false)
    (he : starEach (e :: es) X.env = (false, eval e X.env) :: starEach es X.env) (hpl : (backTo pos (starEach es X.env)).any (·.1) = false) : PE X (.Call (.Name x p) (e :: es) [] pos) (fun σ H Q => t σ H fun vs H1 => sp vs H1 Q E0) := by
  refine ⟨fun pins s σ H Q I h => wpAny_Call_Name_kw (ld_glob I hg A.mg ?_ hdb)⟩
  exact PySem.W.callWith_K (h₀ := X.base) I.ok.mod.kin A.kp (thn (ha.run pos pins s σ H _ I h) fun us s1 ⟨vs, H1, I1, r, q⟩ => ⟨I1.kIn, run_fnG G hr hgd A.b I1 r q⟩) he hpl
theorem evp_callG (F : FnPG X.prog X.w X.K X.mg X.base k x ps (spP X.K R)) (hr : Room k X.A) (hgd : X.A.guards = some []) (hR : R ds d) (ha : EvA X (e :: es) Γ ds) (hg : Gl X x := by rfl) (hdb : (x == ("__debug__" : Str)) = false := by decide)
    (he : starEach (e :: es) X.env = (false, eval e X.env) :: starEach es X.env := by rfl) (hpl : (backTo pos (starEach es X.env)).any (·.1) = false := by rfl) : EvP X (.Call (.Name x p) (e :: es) [] pos) Γ d := fun B F' σ H Q g q => by
  obtain ⟨f, fd, A, G⟩ := F.ex
  exact sE_of (pe_callG G A hr hgd pa_s hg hdb he hpl) (ha B F' σ H _ g fun vs H1 s1 q1 => ⟨ds, d, hd B F', hR, own_of g s1, q1, fun v H2 s2 q2 => q v H2 (s1.trans s2) q2⟩)
theorem et_callSG {px : Pos} {P : Bool → Gm → Prop} (F : FnPG X.prog X.w X.K X.mg X.base k x ps (spS X.K cc Pre Post)) (hr : Room k X.A) (hgd : X.A.guards = some []) (j : Nat) {ad : Addr} {n : Nat} (hj : Γ[j]? = some (some (.s ad n))) (hn : n + cc ≤ many) (ha : EvA X es Γ ds) (hp : Pre ds)
    (z : ∀ d, Post ds d → ∃ b, d = .bool b ∧ P b (Γ.set j (some (.s ad (n + cc))))) (hg : Gl X x := by rfl) (hdb : (x == ("__debug__" : Str)) = false := by decide)
    (hN : X.N[j]? = some y := by rfl) (hv : Vis X.env.scope y := by first | exact Or.inl rfl | exact Or.inr (Or.inl rfl) | exact Or.inr (Or.inr rfl)) (hd1 : (y == ("__debug__" : Str)) = false := by decide) (hcd : (y == ("__classdict__" : Str)) = false := by decide)
    (he : starEach (.Name y px :: es) X.env = (false, eval (.Name y px) X.env) :: starEach es X.env := by rfl) (hpl : (backTo pos (starEach es X.env)).any (·.1) = false := by rfl)
    (hq : ∀ whole, isTrue (.Call (.Name x p) (.Name y px :: es) [] pos) X.env whole = (do let v ← whole; standAt (Expr.pos (.Call (.Name x p) (.Name y px :: es) [] pos)); holding [v] (truthy v)) := by intro _; rfl) : Et X (.Call (.Name x p) (.Name y px :: es) [] pos) Γ P := fun B F' σ H Q g q => by
  obtain ⟨f, fd, A, G⟩ := F.ex
  obtain ⟨v0, h1, e1, _⟩ := g.ent j _ hj
  refine sT_of (pt_val (pe_callG G A hr hgd (pa_cons (pe_var hN hv hd1 hcd) (pa_s (es := es)) he) hg hdb he hpl) hq) ⟨v0, h1, ?_⟩
  refine ha B F' σ H _ g fun ws H1 s1 q1 => ?_
  rw [e1]
  refine spr_call (g.grow s1) hj hn hp q1 fun v H2 F3 d s2 g2 q2 w => ?_
  obtain ⟨b, rfl, w2⟩ := z d w
  exact ⟨b, dp_bool q2, q H2 F3 _ b ((Step.same s1).trans s2) g2 w2⟩

/-! ### tests that draw: not, or; lists of one's own that lose and win items -/
def EtW (X : Cx) (e : Expr) (Γ : Gm) (P : Bool → Gm → Prop) : Prop := ∀ (B : Addr → Prop) F σ H Q, GOk X.K B F H σ Γ →
  (∀ H' F' Γ' b, Step F H F' H' → GOk X.K B F' H' σ Γ' → P b Γ' → Q b H') → sW X e σ H Q
theorem et_not {P : Bool → Gm → Prop} (h : Et X a Γ fun b Γ' => P (!b) Γ') : Et X (.UnaryOp .Not a pos) Γ P := fun B F σ H Q g q => sT_of (pt_not pt_s) (h B F σ H _ g fun H' F' Γ' b s g' z => q H' F' Γ' _ s g' z)
theorem et_or {P : Bool → Gm → Prop} (h : Et X a Γ fun k Γ' => if k = true then P true Γ' else Et X b Γ' P) : Et X (.BoolOp .Or [a, b] pos) Γ P := fun B F σ H Q g q =>
  sT_of (PW.pt (pw_or pt_s (pw_or1 pt_s))) (h B F σ H _ g fun H1 F1 Γ1 k s1 g1 z => by
    cases k with
    | true => exact iteT (q H1 F1 Γ1 true s1 g1 z)
    | false => exact iteF (z B F1 σ H1 _ g1 fun H2 F2 Γ2 m s2 g2 w => q H2 F2 Γ2 m (s1.trans s2) g2 w))
theorem et_imp {P P' : Bool → Gm → Prop} (h : Et X a Γ P) (k : ∀ b Γ', P b Γ' → P' b Γ') : Et X a Γ P' := fun B F σ H Q g q => h B F σ H _ g fun H' F' Γ' b s g' z => q H' F' Γ' b s g' (k _ _ z)
/-- xs.pop(e), xs a list of one's own at the slot i -/
theorem ev_popAt (i : Nat) {xs0 : List PyData} {px apos : Pos} (hi0 : Γ[i]? = some (some (.l xs0))) (he : Ev X e Γ fun d Γ' => ∃ (r : Nat) (xs : List PyData) (y : PyData), d = nt r ∧ r < 1000000 ∧ Γ'[i]? = some (some (.l xs)) ∧ xs[r]? = some y ∧ P y (Γ'.set i (some (.l (xs.eraseIdx r)))))
    (hN : X.N[i]? = some x := by rfl) (hv : Vis X.env.scope x := by first | exact Or.inl rfl | exact Or.inr (Or.inl rfl) | exact Or.inr (Or.inr rfl)) (hd1 : (x == ("__debug__" : Str)) = false := by decide) (hcd : (x == ("__classdict__" : Str)) = false := by decide)
    (hbase : attributeBase (.Name x px) "pop" X.env (eval (.Name x px) X.env) = eval (.Name x px) X.env := by rfl)
    (hfew : ((backTo p (starEach [e] X.env)).all (fun x => !x.1) && (backToKw p (keywordEach [] X.env)).all (fun x => x.1.isSome) && decide (([e] : List Expr).length + ([] : List Keyword).length + (if ([] : List Keyword).isEmpty then 0 else 1) < 30)) = true := by rfl)
    (hline : (apos.endLine == p.line) = true := by rfl) (hs1 : starEach [e] X.env = (false, eval e X.env) :: starEach [] X.env := by rfl) (hpl : (backTo p (starEach [] X.env)).any (·.1) = false := by rfl) :
    Ev X (.Call (.Attribute (.Name x px) "pop" apos) [e] [] p) Γ P := fun B F σ H Q g q => by
  have R : PE X (.Call (.Attribute (.Name x px) "pop" apos) [e] [] p) _ := pe_bm PySem.F.plainAttrs_list PySem.F.slot_list_pop PySem.F.type_list_pop mt_popAt (pe_var hN hv hd1 hcd) (pa_cons (pe_s (e := e)) pa_nil hs1) hbase hfew hline hs1 hpl
  refine sE_of R ?_
  obtain ⟨a, vs, h1, h2, h3, h4, up⟩ := g.setC (ys := []) hi0
  refine ⟨.ref a, h1, .inl ⟨rfl, _, .inl (.inl h3)⟩, ?_⟩
  refine he B F σ H _ g fun v H1 F1 Γ1 d s1 g1 q1 ⟨r, xs, y, e1, hr, hi, hy, z⟩ => ?_
  subst e1
  obtain ⟨a', vs', h1', h2', h3', h4', up'⟩ := g1.setC (ys := xs.eraseIdx r) hi
  rw [h1] at h1'
  cases h1'
  obtain ⟨w, hw, dw⟩ := dps_get h4' hy
  have hl : r < vs'.length := (List.getElem?_eq_some_iff.mp hw).1
  have de : ∀ {vs : List V} {ds : List PyData} (r : Nat), DpAll X.K (hid (hd B F1) H1) vs ds → DpAll X.K (hid (hd B F1) H1) (vs.eraseIdx r) (ds.eraseIdx r) := by
    intro vs ds r h
    induction r generalizing vs ds with
    | zero => cases h with
      | nil => exact .nil
      | cons _ t => exact t
    | succ r ih => cases h with
      | nil => exact .nil
      | cons a t => exact .cons a (ih t)
  obtain ⟨u1, u2⟩ := up' (vs'.eraseIdx r) (de r h4')
  refine ⟨a, vs', ((r : Nat) : Int), r, w, rfl, by rw [dp_int q1], h3', by omega, ?_, PySem.StrLaws.seqIndex_nonneg (by omega) (by omega), hw, ?_⟩
  · have : ((r : Nat) : Int) < 1000000 := by omega
    exact Int.lt_trans this (by decide)
  · have ha : hd B F1 a := .inr ⟨i, by rw [h2']; simp⟩
    refine q w _ F1 _ y (s1.trans u1) u2 (dp_mono (fun b o t => ?_) _ dw) z
    obtain ⟨t1, t2⟩ := hid_iff.mp t
    exact hid_iff.mpr ⟨t1, by rw [upd_ne (fun z => t1 (by rw [z]; exact ha))]; exact t2⟩
/-- xs.append(e), e may draw -/
theorem e1_appE (i : Nat) {xs0 : List PyData} {O : Out} {px apos : Pos} (hi0 : Γ[i]? = some (some (.l xs0))) (he : Ev X e Γ fun d Γ' => ∃ xs, Γ'[i]? = some (some (.l xs)) ∧ xs.length < sizeLine ∧ O.N (Γ'.set i (some (.l (xs ++ [d]))))) (hN : X.N[i]? = some x := by rfl)
    (hv : Vis X.env.scope x := by first | exact Or.inl rfl | exact Or.inr (Or.inl rfl) | exact Or.inr (Or.inr rfl)) (hd1 : (x == ("__debug__" : Str)) = false := by decide) (hcd : (x == ("__classdict__" : Str)) = false := by decide)
    (hbase : attributeBase (.Name x px) "append" X.env (eval (.Name x px) X.env) = eval (.Name x px) X.env := by rfl)
    (hfew : ((backTo p (starEach [e] X.env)).all (fun x => !x.1) && (backToKw p (keywordEach [] X.env)).all (fun x => x.1.isSome) && decide (([e] : List Expr).length + ([] : List Keyword).length + (if ([] : List Keyword).isEmpty then 0 else 1) < 30)) = true := by rfl)
    (hline : (apos.endLine == p.line) = true := by rfl) (hs1 : starEach [e] X.env = (false, eval e X.env) :: starEach [] X.env := by rfl) (hpl : (backTo p (starEach [] X.env)).any (·.1) = false := by rfl)
    (hs : swapsWith (.Call (.Attribute (.Name x px) "append" apos) [e] [] p) none pos.line X.env = pure false := by rfl) :
    E1 X (.Expr (.Call (.Attribute (.Name x px) "append" apos) [e] [] p) pos) Γ O := fun B F σ H D g w => by
  have R : PE X (.Call (.Attribute (.Name x px) "append" apos) [e] [] p) _ := pe_bm PySem.F.plainAttrs_list PySem.F.slot_list_append PySem.F.type_list_append mt_append (pe_var hN hv hd1 hcd) (pa_cons (pe_s (e := e)) pa_nil hs1) hbase hfew hline hs1 hpl
  refine sS_of (ps_expr R hs) ?_
  obtain ⟨a, vs, h1, h2, h3, h4, up⟩ := g.setC (ys := []) hi0
  refine ⟨.ref a, h1, .inl ⟨rfl, _, .inl (.inl h3)⟩, ?_⟩
  refine he B F σ H _ g fun v H1 F1 Γ1 d s1 g1 q1 ⟨xs, hi, hl, z⟩ => ?_
  obtain ⟨a', vs', h1', h2', h3', h4', up'⟩ := g1.setC (ys := xs ++ [d]) hi
  rw [h1] at h1'
  cases h1'
  obtain ⟨u1, u2⟩ := up' (vs' ++ [v]) (dps_app h4' (dps_one q1))
  exact ⟨a, vs', v, rfl, rfl, h3', by rw [dps_len h4']; exact hl, w.nx F1 σ _ _ (s1.trans u1) u2 z⟩
end
end Mt

set_option maxHeartbeats 1000000
namespace Mt
open PySem PySem.Spec PyProof.Rows L2
section
variable {X : Cx} {a b c e tg iter elt : Expr} {es ifs : List Expr} {Γ : Gm} {d : PyData} {ds ds' : List PyData} {pos p px py pt spos p' : Pos} {kt : Nat} {x y : Str} {scope sc : Scope} {N ps : List Str} {O : Out} {α : Type}
theorem lc1 (k : Nat) (xs : List α) (enc : α → PyData) (tst : α → Bool) (el : α → PyData) (hi : EvI X (.Name x px) iter Γ (xs.map enc)) (hl : xs.length ≤ 100000)
    (ht : ∀ (s : Shared) (H0 : Hp) (C : Addr) (cl : List (Str × Addr)) (fp : List Addr) (z : α), z ∈ xs → EvC (Blk X s H0 scope C cl fp) ifs (Γ.set k (some (.d (enc z)))) (tst z))
    (he : ∀ (s : Shared) (H0 : Hp) (C : Addr) (cl : List (Str × Addr)) (fp : List Addr) (z : α), z ∈ xs → tst z = true → EvP (Blk X s H0 scope C cl fp) elt (Γ.set k (some (.d (enc z)))) (el z)) (hk : nOwn Γ k = true := by rfl) :
    Lc X scope (gName k) [k] (.Name x px) iter ifs elt Γ ((xs.filter tst).map el) :=
  lc_mk xs enc tst el (fun z => Γ.set k (some (.d (enc z)))) hi (Nat.le_trans hl (by decide)) (fun z _ => tgt_name hk) ht he
theorem lc1n (k : Nat) (xs : List α) (enc : α → PyData) (el : α → PyData) (hi : EvI X (.Name x px) iter Γ (xs.map enc)) (hl : xs.length ≤ 100000)
    (he : ∀ (s : Shared) (H0 : Hp) (C : Addr) (cl : List (Str × Addr)) (fp : List Addr) (z : α), z ∈ xs → EvP (Blk X s H0 scope C cl fp) elt (Γ.set k (some (.d (enc z)))) (el z)) (hk : nOwn Γ k = true := by rfl) :
    Lc X scope (gName k) [k] (.Name x px) iter [] elt Γ (xs.map el) := by
  have h := lc1 (scope := scope) (ifs := []) (elt := elt) k xs enc (fun _ => true) el hi hl (fun _ _ _ _ _ _ _ => evc_nil) (fun s H0 C cl fp z hz _ => he s H0 C cl fp z hz) hk
  rw [List.filter_eq_self.mpr (fun _ _ => rfl)] at h
  exact h
theorem lc2 (k m : Nat) (xs : List α) (e1 e2 : α → PyData) (tst : α → Bool) (el : α → PyData) (hi : EvI X (.Tuple [.Name x px, .Name y py] kt pt) iter Γ (xs.map fun z => PyData.tuple [e1 z, e2 z])) (hl : xs.length ≤ 100000)
    (ht : ∀ (s : Shared) (H0 : Hp) (C : Addr) (cl : List (Str × Addr)) (fp : List Addr) (z : α), z ∈ xs → EvC (Blk X s H0 scope C cl fp) ifs ((Γ.set k (some (.d (e1 z)))).set m (some (.d (e2 z)))) (tst z))
    (he : ∀ (s : Shared) (H0 : Hp) (C : Addr) (cl : List (Str × Addr)) (fp : List Addr) (z : α), z ∈ xs → tst z = true → EvP (Blk X s H0 scope C cl fp) elt ((Γ.set k (some (.d (e1 z)))).set m (some (.d (e2 z)))) (el z)) (hk : nOwn Γ k = true := by rfl) (hm : nOwn Γ m = true := by rfl) (hkm : k ≠ m := by decide) :
    Lc X scope (gTup X.K 2 (gCons (gName k) (gCons (gName m) gNil))) [k, m] (.Tuple [.Name x px, .Name y py] kt pt) iter ifs elt Γ ((xs.filter tst).map el) :=
  lc_mk xs (fun z => PyData.tuple [e1 z, e2 z]) tst el (fun z => (Γ.set k (some (.d (e1 z)))).set m (some (.d (e2 z)))) hi (Nat.le_trans hl (by decide)) (fun z _ => tgt_pair hk hm hkm) ht he
theorem lc2n (k m : Nat) (xs : List α) (e1 e2 : α → PyData) (el : α → PyData) (hi : EvI X (.Tuple [.Name x px, .Name y py] kt pt) iter Γ (xs.map fun z => PyData.tuple [e1 z, e2 z])) (hl : xs.length ≤ 100000)
    (he : ∀ (s : Shared) (H0 : Hp) (C : Addr) (cl : List (Str × Addr)) (fp : List Addr) (z : α), z ∈ xs → EvP (Blk X s H0 scope C cl fp) elt ((Γ.set k (some (.d (e1 z)))).set m (some (.d (e2 z)))) (el z)) (hk : nOwn Γ k = true := by rfl) (hm : nOwn Γ m = true := by rfl) (hkm : k ≠ m := by decide) :
    Lc X scope (gTup X.K 2 (gCons (gName k) (gCons (gName m) gNil))) [k, m] (.Tuple [.Name x px, .Name y py] kt pt) iter [] elt Γ (xs.map el) := by
  have h := lc2 (scope := scope) (ifs := []) (elt := elt) k m xs e1 e2 (fun _ => true) el hi hl (fun _ _ _ _ _ _ _ => evc_nil) (fun s H0 C cl fp z hz _ => he s H0 C cl fp z hz) hk hm hkm
  rw [List.filter_eq_self.mpr (fun _ _ => rfl)] at h
  exact h
theorem evf_c1 (S : FnScope N ps sc) {k : Nat} (h : Lc X scope (gName k) [k] (.Name x px) iter ifs elt Γ ds) (hi : N[k]? = some x := by rfl) (hXN : X.N = N := by rfl) (ok : blkC X.N X.env.scope scope [(x, k)] = true := by kernel_rfl) (hc : X.calm = true := by rfl)
    (hx : ∀ (s : Shared) (H : Hp) (C : Addr) (cl : List (Str × Addr)) (fp : List Addr), Loc (Blk X s H scope C cl fp).env.scope x := by intros; first | exact .inl rfl | exact .inr rfl)
    (hf : ∀ (s : Shared) (H : Hp) (C : Addr) (cl : List (Str × Addr)) (fp : List Addr), (Blk X s H scope C cl fp).fn x = true ∨ (Blk X s H scope C cl fp).env.scope.names.lookup x = some .local := by intros; first | exact .inl rfl | exact .inr rfl)
    (hs : ∀ x, foldedSetIterable iter X.env x = pure x := by intro _; rfl) : EvF X (.ListComp elt [⟨.Name x px, iter, ifs, 0⟩] scope pos) Γ ds := by
  subst hXN
  exact evf_lc (own := [(x, k)]) hc S.nd (blkOk_by ok) (fun s H C cl fp => pg_name S.nd hi (hx s H C cl fp) (hf s H C cl fp)) h hs
theorem evf_c2 (S : FnScope N ps sc) {k m : Nat} (h : Lc X scope (gTup X.K 2 (gCons (gName k) (gCons (gName m) gNil))) [k, m] (.Tuple [.Name x px, .Name y py] kt pt) iter ifs elt Γ ds) (hi : N[k]? = some x := by rfl) (hi2 : N[m]? = some y := by rfl) (hXN : X.N = N := by rfl) (ok : blkC X.N X.env.scope scope [(x, k), (y, m)] = true := by kernel_rfl) (hc : X.calm = true := by rfl)
    (hg : ∀ (s : Shared) (H : Hp) (C : Addr) (cl : List (Str × Addr)) (fp : List Addr), PG (Blk X s H scope C cl fp) (.Tuple [.Name x px, .Name y py] kt pt) (gTup X.K 2 (gCons (gName k) (gCons (gName m) gNil))))
    (hs : ∀ x, foldedSetIterable iter X.env x = pure x := by intro _; rfl) : EvF X (.ListComp elt [⟨.Tuple [.Name x px, .Name y py] kt pt, iter, ifs, 0⟩] scope pos) Γ ds := by
  subst hXN
  exact evf_lc (own := [(x, k), (y, m)]) hc S.nd (blkOk_by ok) hg h hs
/-- y = [.. for x in ..] -/
theorem e1_setC1 (S : FnScope N ps sc) (i : Nat) {k : Nat} (h : Lc X scope (gName k) [k] (.Name x px) iter ifs elt Γ ds) (z : O.N (Γ.set i (some (.d (.list ds))))) (hi : N[k]? = some x := by rfl) (hXN : X.N = N := by rfl) (ok : blkC X.N X.env.scope scope [(x, k)] = true := by kernel_rfl) (hc : X.calm = true := by rfl)
    (hsw : swapsWith (.ListComp elt [⟨.Name x px, iter, ifs, 0⟩] scope p) (some (.Name y p')) spos.line X.env = pure true := by exact sw_true rfl rfl rfl (by decide +kernel))
    (hx : ∀ (s : Shared) (H : Hp) (C : Addr) (cl : List (Str × Addr)) (fp : List Addr), Loc (Blk X s H scope C cl fp).env.scope x := by intros; first | exact .inl rfl | exact .inr rfl)
    (hf : ∀ (s : Shared) (H : Hp) (C : Addr) (cl : List (Str × Addr)) (fp : List Addr), (Blk X s H scope C cl fp).fn x = true ∨ (Blk X s H scope C cl fp).env.scope.names.lookup x = some .local := by intros; first | exact .inl rfl | exact .inr rfl)
    (hi2 : N[i]? = some y := by rfl) (hy : X.env.scope.names.lookup y = some .local := by rfl)
    (hs : ∀ x, foldedSetIterable iter X.env x = pure x := by intro _; rfl) : E1 X (.Assign [.Name y p'] (.ListComp elt [⟨.Name x px, iter, ifs, 0⟩] scope p) spos) Γ O := by
  subst hXN
  exact e1_setLc (own := [(x, k)]) i z hc S.nd hsw (blkOk_by ok) (fun s H C cl fp => pg_name S.nd hi (hx s H C cl fp) (hf s H C cl fp)) h hi2 hy hs
theorem e1_setC2 (S : FnScope N ps sc) (i : Nat) {k m : Nat} (h : Lc X scope (gTup X.K 2 (gCons (gName k) (gCons (gName m) gNil))) [k, m] (.Tuple [.Name x px, .Name y py] kt pt) iter ifs elt Γ ds) (z : O.N (Γ.set i (some (.d (.list ds)))))
    (hg : ∀ (s : Shared) (H : Hp) (C : Addr) (cl : List (Str × Addr)) (fp : List Addr), PG (Blk X s H scope C cl fp) (.Tuple [.Name x px, .Name y py] kt pt) (gTup X.K 2 (gCons (gName k) (gCons (gName m) gNil)))) {v : Str} (hi : N[k]? = some x := by rfl) (hi2 : N[m]? = some y := by rfl) (hXN : X.N = N := by rfl) (ok : blkC X.N X.env.scope scope [(x, k), (y, m)] = true := by kernel_rfl) (hc : X.calm = true := by rfl)
    (hsw : swapsWith (.ListComp elt [⟨.Tuple [.Name x px, .Name y py] kt pt, iter, ifs, 0⟩] scope p) (some (.Name v p')) spos.line X.env = pure true := by exact sw_true rfl rfl rfl (by decide +kernel))
    (hi3 : N[i]? = some v := by rfl) (hv : X.env.scope.names.lookup v = some .local := by rfl)
    (hs : ∀ x, foldedSetIterable iter X.env x = pure x := by intro _; rfl) : E1 X (.Assign [.Name v p'] (.ListComp elt [⟨.Tuple [.Name x px, .Name y py] kt pt, iter, ifs, 0⟩] scope p) spos) Γ O := by
  subst hXN
  exact e1_setLc (own := [(x, k), (y, m)]) i z hc S.nd hsw (blkOk_by ok) hg h hi3 hv hs
theorem evp_andB {k m : Bool} (ha : EvP X a Γ (.bool k)) (hb : k = true → EvP X b Γ (.bool m)) : EvP X (.BoolOp .And [a, b] pos) Γ (.bool (k && m)) := fun B F σ H Q g h =>
  sE_of (pe_and pe_s (pe_one pe_s)) (ha B F σ H _ g fun v H1 s1 q => ⟨k, dp_bool q, by
    cases k with
    | true => exact iteT (hb rfl B F σ H1 _ (g.grow s1) fun v H2 s2 q2 => h v H2 (s1.trans s2) q2)
    | false => exact iteF (h _ H1 s1 (.bl _))⟩)
theorem dec_lt (m n : Nat) : decide ((m : Int) < (n : Int)) = decide (m < n) := by
  rw [decide_eq_decide]
  omega
theorem etn_gt {m n : Nat} (ha : EvP X a Γ (nt m)) (hb : EvP X b Γ (nt n)) : EvT X (.Compare a [.Gt] [b] pos) Γ (decide (n < m)) := by
  rw [← dec_lt]
  exact evt_cmp (f := fun i j => decide (j < i)) op_gt ha hb
theorem etn_lt {m n : Nat} (ha : EvP X a Γ (nt m)) (hb : EvP X b Γ (nt n)) : EvT X (.Compare a [.Lt] [b] pos) Γ (decide (m < n)) := by
  rw [← dec_lt]
  exact evt_cmp (f := fun i j => decide (i < j)) op_lt ha hb
theorem map_nt (ns : List Nat) : ns.map nt = (ns.map fun (n : Nat) => ((n : Nat) : Int)).map PyData.int := by rw [List.map_map] <;> rfl
theorem mem_cast (i : Nat) (ns : List Nat) : decide (((i : Nat) : Int) ∈ ns.map fun (n : Nat) => ((n : Nat) : Int)) = decide (i ∈ ns) := by
  rw [decide_eq_decide, List.mem_map]
  constructor
  · rintro ⟨m, h1, h2⟩
    have : m = i := by omega
    rw [← this]
    exact h1
  · intro h
    exact ⟨i, h, rfl⟩
theorem etn_notIn {i : Nat} {ns : List Nat} (ha : EvP X a Γ (nt i)) (hb : EvP X b Γ d) (hd : d = .list (ns.map nt) ∨ d = .tuple (ns.map nt)) (hm : behindInMarks .NotIn b = false := by rfl) : EvT X (.Compare a [.NotIn] [b] pos) Γ (!decide (i ∈ ns)) := by
  rw [← mem_cast]
  refine evt_notIn ha hb ?_ hm
  rw [← map_nt]
  exact hd
theorem sum_cast (ns : List Nat) : (ns.map fun (n : Nat) => ((n : Nat) : Int)).sum = ((ns.sum : Nat) : Int) := by
  induction ns with
  | nil => rfl
  | cons n r ih => rw [List.map_cons, List.sum_cons, ih, List.sum_cons, Int.natCast_add]
theorem evn_sum {ns : List Nat} (hm : X.mg "sum" = none) (ha : EvP X e Γ (.list (ns.map nt))) (hc : X.calm = true := by rfl) (hg : Gl X "sum" := by rfl) (hs : starEach [e] X.env = (false, eval e X.env) :: starEach [] X.env := by rfl) : EvP X (.Call (.Name "sum" p) [e] [] pos) Γ (nt ns.sum) := by
  unfold nt
  rw [← sum_cast]
  rw [map_nt] at ha
  exact evp_sum hc hm ha hg hs
/-- xs.extend(a new list), xs a list of one's own -/
theorem e1_ext (i : Nat) {xs : List PyData} {px apos : Pos} (he : EvF X e Γ ds) (hi : Γ[i]? = some (some (.l xs))) (hl : xs.length + ds.length ≤ sizeLine) (z : O.N (Γ.set i (some (.l (xs ++ ds))))) (hN : X.N[i]? = some x := by rfl)
    (hv : Vis X.env.scope x := by first | exact Or.inl rfl | exact Or.inr (Or.inl rfl) | exact Or.inr (Or.inr rfl)) (hd1 : (x == ("__debug__" : Str)) = false := by decide) (hcd : (x == ("__classdict__" : Str)) = false := by decide)
    (hbase : attributeBase (.Name x px) "extend" X.env (eval (.Name x px) X.env) = eval (.Name x px) X.env := by rfl)
    (hfew : ((backTo p (starEach [e] X.env)).all (fun x => !x.1) && (backToKw p (keywordEach [] X.env)).all (fun x => x.1.isSome) && decide (([e] : List Expr).length + ([] : List Keyword).length + (if ([] : List Keyword).isEmpty then 0 else 1) < 30)) = true := by rfl)
    (hline : (apos.endLine == p.line) = true := by rfl) (hs1 : starEach [e] X.env = (false, eval e X.env) :: starEach [] X.env := by rfl) (hpl : (backTo p (starEach [] X.env)).any (·.1) = false := by rfl)
    (hs : swapsWith (.Call (.Attribute (.Name x px) "extend" apos) [e] [] p) none pos.line X.env = pure false := by rfl) :
    E1 X (.Expr (.Call (.Attribute (.Name x px) "extend" apos) [e] [] p) pos) Γ O := fun B F σ H D g w => by
  have R : PE X (.Call (.Attribute (.Name x px) "extend" apos) [e] [] p) _ := pe_bm PySem.F.plainAttrs_list PySem.F.slot_list_extend PySem.F.type_list_extend mt_extend (pe_var hN hv hd1 hcd) (pa_cons (pe_s (e := e)) pa_nil hs1) hbase hfew hline hs1 hpl
  refine sS_of (ps_expr R hs) ?_
  obtain ⟨a, vs, h1, h2, h3, h4, up⟩ := g.setC (ys := xs ++ ds) hi
  refine ⟨.ref a, h1, .inl ⟨rfl, _, .inl (.inl h3)⟩, ?_⟩
  refine he B F σ H _ g fun b us H1 s1 n hb q => ?_
  obtain ⟨a', vs', h1', h2', h3', h4', up'⟩ := (g.grow s1).setC (ys := xs ++ ds) hi
  rw [h1] at h1'
  cases h1'
  have q' : DpAll X.K (hid (hd B F) H1) us ds := dps_mono (fun b' o z => by
    obtain ⟨z1, z2⟩ := hid_iff.mp z
    exact hid_iff.mpr ⟨fun w => z1 (w.elim (fun w => .inl (.inr w)) .inr), z2⟩) _ q
  obtain ⟨u1, u2⟩ := up' (vs' ++ us) (dps_app h4' q')
  exact ⟨a, b, vs', us, rfl, rfl, h3', hb, by rw [dps_len h4', dps_len q]; exact hl, w.nx F σ _ _ ((Step.same s1).trans u1) u2 z⟩
theorem etn_bitT {m t : Nat} {kk : Nat} {p3 p4 : Pos} (ha : EvP X a Γ (nt m)) (ht : EvP X e Γ (nt t)) (he : ∀ whole, isTrue (.BinOp (.BinOp a .RShift e p3) .BitAnd (.Constant (.int 1) kk p4) pos) X.env whole = (do let v ← whole; standAt (Expr.pos (.BinOp (.BinOp a .RShift e p3) .BitAnd (.Constant (.int 1) kk p4) pos)); holding [v] (truthy v)) := by intro _; rfl) :
    EvT X (.BinOp (.BinOp a .RShift e p3) .BitAnd (.Constant (.int 1) kk p4) pos) Γ (m.testBit t) := by
  have h : ((((m.testBit t).toNat : Nat) : Int) != 0) = m.testBit t := by cases m.testBit t <;> rfl
  rw [← h]
  exact evt_int (evn_bit ha ht) he
end
end Mt

set_option maxHeartbeats 1000000
namespace Mt
open PySem PySem.Spec PyProof.Rows L2
/-! ### the text: the defs by place -/
def topS (i : Nat) : Stmt := PySem.Challenge.pw_meetlots_k36_whole_rules_and_greatest_lo.main.body.getD i (.Pass ⟨0, 0, 0, 0⟩)
abbrev s_bits_of : Stmt := topS 7
abbrev s_lot_of : Stmt := topS 8
abbrev s_lot_key : Stmt := topS 9
abbrev s_bits_key : Stmt := topS 10
abbrev s_ordered : Stmt := topS 11
abbrev s_rule_bits : Stmt := topS 13
abbrev s_is_kept : Stmt := topS 14
abbrev s_bits_round : Stmt := topS 15
abbrev s_bits_closure : Stmt := topS 16
abbrev s_closed_bits : Stmt := topS 17
abbrev s_closure_in : Stmt := topS 18
abbrev s_closure : Stmt := topS 19
abbrev s_is_within : Stmt := topS 21
abbrev s_bits_rule : Stmt := topS 22
abbrev s_things_made_first : Stmt := topS 23
abbrev s_direct : Stmt := topS 24
abbrev s_after_a_round : Stmt := topS 25
abbrev s_first_far : Stmt := topS 26
abbrev s_whole_bits : Stmt := topS 28
abbrev s_meet_above : Stmt := topS 29
abbrev s_irreducible_bits : Stmt := topS 30
abbrev s_table_made : Stmt := topS 31
abbrev s_need_closed : Stmt := topS 32
abbrev s_table_of : Stmt := topS 33
abbrev s_greatest_bits : Stmt := topS 34
abbrev s_without_bits : Stmt := topS 35
abbrev s_greatest_without : Stmt := topS 36
abbrev s_barred : Stmt := topS 37
abbrev s_least_bits : Stmt := topS 38
abbrev s_hit_bits : Stmt := topS 39
abbrev s_hits : Stmt := topS 40
abbrev s_rules_for : Stmt := topS 41
abbrev s_things_in : Stmt := topS 43
abbrev s_lots_within : Stmt := topS 44
abbrev s_closures_of : Stmt := topS 45
abbrev s_spare_by : Stmt := topS 46
abbrev s_below_closed : Stmt := topS 47
abbrev s_makers_by : Stmt := topS 48
abbrev s_makers_with : Stmt := topS 49
abbrev s_all_things : Stmt := topS 50
abbrev s_makers : Stmt := topS 51
abbrev s_keys : Stmt := topS 52
abbrev s_next_below : Stmt := topS 53
abbrev s_nonkeys : Stmt := topS 54
abbrev s_w_spring : Stmt := topS 56
abbrev s_w_draw : Stmt := topS 57
abbrev s_w_pick : Stmt := topS 58
abbrev s_w_mixed : Stmt := topS 59
abbrev s_w_some : Stmt := topS 60
abbrev s_w_lot : Stmt := topS 61
abbrev s_w_mask : Stmt := topS 62
abbrev s_w_rank : Stmt := topS 63
abbrev s_w_lots : Stmt := topS 64
abbrev s_w_needs : Stmt := topS 65
abbrev s_w_closed : Stmt := topS 66
abbrev s_w_tome : Stmt := topS 67
abbrev s_w_spread : Stmt := topS 68
abbrev s_w_blown : Stmt := topS 69
abbrev s_w_book : Stmt := topS 70
abbrev s_w_greatest : Stmt := topS 71
abbrev s_w_by_steps : Stmt := topS 72
abbrev s_w_is_found : Stmt := topS 73
abbrev s_w_is_hit : Stmt := topS 74
abbrev s_w_at_once : Stmt := topS 75
abbrev s_w_by_closures : Stmt := topS 76
abbrev s_w_is_key : Stmt := topS 77
abbrev s_law : Stmt := topS 78
end Mt

set_option maxHeartbeats 1000000
namespace Mt
open PySem PySem.Spec PyProof.Rows L2
/-! ### data -/
/-- a lot, a list of ints, rules as masks, a book by its rules' masks -/
abbrev lotD (l : List Nat) : PyData := .tuple (l.map nt)
abbrev intsD (l : List Nat) : PyData := .list (l.map nt)
abbrev Ru := Nat × Nat
abbrev rulesD (rs : List Ru) : PyData := .list (rs.map fun r => .tuple [nt r.1, nt r.2])
def bitsOf (l : List Nat) : Nat := l.foldl (fun b t => b ||| 2 ^ t) 0
def lotOf (b : Nat) : List Nat := (List.range 10).filter fun t => b.testBit t
abbrev lotM (b : Nat) : PyData := lotD (lotOf b)
abbrev bookD (n : Nat) (rs : List Ru) : PyData := .tuple [nt n, .tuple (rs.map fun r => .tuple [lotM r.1, lotM r.2])]
/-- what lots are put in order by -/
def kd (l : List Nat) : PyData := .tuple [nt l.length, lotD l]
def kdM (b : Nat) : PyData := kd (lotOf b)
def ord (ms : List Nat) : List Nat := ms.mergeSort (PySem.W.dataLe false kdM)
/-- a book's masks -/
structure Bk (n : Nat) (rs : List Ru) : Prop where
  n10 : n ≤ 10
  few : rs.length ≤ 1000
  lt : ∀ r ∈ rs, r.1 < 2 ^ n ∧ r.2 < 2 ^ n
def kept (rs : List Ru) (b : Nat) : Bool := rs.all fun r => !(decide (b &&& r.1 = r.1) && !decide (b &&& r.2 = r.2))
def rnd (rs : List Ru) (b : Nat) : Nat := rs.foldl (fun f r => if b &&& r.1 = r.1 then f ||| r.2 else f) b
def itr (rs : List Ru) : Nat → Nat → Nat
  | 0, b => b
  | k + 1, b => rnd rs (itr rs k b)
def clo (rs : List Ru) (b : Nat) : Nat := itr rs 1024 b
def closed (n : Nat) (rs : List Ru) : List Nat := ord ((List.range (2 ^ n)).filter (kept rs))
theorem bitsOf_snoc (l : List Nat) (t : Nat) : bitsOf (l ++ [t]) = bitsOf l ||| 2 ^ t := by
  unfold bitsOf
  rw [List.foldl_append] <;> rfl
theorem take_snoc {α : Type} {l : List α} {i : Nat} {x : α} (h : l[i]? = some x) : l.take (i + 1) = l.take i ++ [x] := by
  rw [List.take_add_one, h] <;> rfl
theorem bitsOf_bit (i : Nat) : ∀ l : List Nat, (bitsOf l).testBit i = decide (i ∈ l) := by
  have h : ∀ (l : List Nat) (b : Nat), (l.foldl (fun b t => b ||| 2 ^ t) b).testBit i = (b.testBit i || decide (i ∈ l)) := by
    intro l
    induction l with
    | nil => intro b; simp
    | cons t r ih =>
      intro b
      rw [List.foldl_cons, ih, Nat.testBit_or, Nat.testBit_two_pow]
      by_cases h1 : t = i
      · subst h1
        simp
      · have h2 : ¬ i = t := fun z => h1 z.symm
        simp [h1, h2]
  intro l
  unfold bitsOf
  rw [h]
  simp
theorem mem_lotOf {b i : Nat} : i ∈ lotOf b ↔ i < 10 ∧ b.testBit i = true := by
  unfold lotOf
  simp
theorem bitsOf_lotOf {b : Nat} (h : b < 2 ^ 10) : bitsOf (lotOf b) = b := by
  apply Nat.eq_of_testBit_eq
  intro i
  rw [bitsOf_bit]
  by_cases hi : i < 10
  · cases e : b.testBit i
    · exact decide_eq_false fun z => by
        rw [(mem_lotOf.mp z).2] at e
        cases e
    · exact decide_eq_true (mem_lotOf.mpr ⟨hi, e⟩)
  · rw [Nat.testBit_lt_two_pow (Nat.lt_of_lt_of_le h (Nat.pow_le_pow_right (by decide) (by omega)))]
    exact decide_eq_false fun z => hi (mem_lotOf.mp z).1
theorem lt10 {n b : Nat} (hn : n ≤ 10) (h : b < 2 ^ n) : b < 2 ^ 10 := Nat.lt_of_lt_of_le h (Nat.pow_le_pow_right (by decide) hn)
/-! ### keys in order -/
theorem alikeAll_lots : ∀ l m : List Nat, PySem.W.alikeAll (l.map nt) (m.map nt) = true
  | [], m => by simp [PySem.W.alikeAll]
  | x :: l, [] => by simp [PySem.W.alikeAll]
  | x :: l, y :: m => by
    rw [List.map_cons, List.map_cons, PySem.W.alikeAll, alikeAll_lots l m]
    simp [PySem.W.alike]
theorem alike_kd (l m : List Nat) : PySem.W.alike (kd l) (kd m) = true := by
  unfold kd
  rw [PySem.W.alike, PySem.W.alikeAll, PySem.W.alikeAll, PySem.W.alike, PySem.W.alike, alikeAll_lots]
  simp [PySem.W.alikeAll]
theorem allAlike_kd {α : Type} (xs : List α) (f : α → List Nat) : PySem.W.AllAlike (xs.map fun x => kd (f x)) := fun d hd e he => by
  obtain ⟨x, _, rfl⟩ := List.mem_map.mp hd
  obtain ⟨y, _, rfl⟩ := List.mem_map.mp he
  exact alike_kd _ _
theorem sortable_kd {α : Type} (xs : List α) (f : α → List Nat) : PySem.W.Sortable (xs.map fun x => kd (f x)) := .inl fun d hd => by
  obtain ⟨x, _, rfl⟩ := List.mem_map.mp hd
  exact ⟨_, _, rfl⟩
theorem depthAll_ints : ∀ l : List Nat, PyData.depthAll (l.map nt) ≤ 1
  | [] => by simp [PyData.depthAll]
  | x :: l => by
    have := depthAll_ints l
    simp only [List.map_cons, PyData.depthAll, PyData.depth] at this ⊢
    omega
theorem depth_kd (l : List Nat) : (kd l).depth ≤ 64 := by
  have := depthAll_ints l
  unfold kd
  simp only [PyData.depth, PyData.depthAll]
  omega
/-! ### the names of the module that are built-ins -/
structure Mg (mg : Str → Option Value) : Prop where
  tuple : mg "tuple" = none
  range : mg "range" = none
  len : mg "len" = none
  sorted : mg "sorted" = none
  list : mg "list" = none
  dict : mg "dict" = none
  any : mg "any" = none
  all : mg "all" = none
  sum : mg "sum" = none
  repr : mg "repr" = none
  abs : mg "abs" = none
  int : mg "int" = none
  enumerate : mg "enumerate" = none
  mxT : ∃ t, mg "MAX_THINGS" = some (.int 10 t)
  mxR : ∃ t, mg "MAX_ROWS" = some (.int 60 t)
section
variable {P : Program} {w : World} {K : PySem.W.Frag} {mg : Str → Option Value} {base : Heap} {f : Addr} {fd : FuncData}
theorem sc_bits_of : FnScope ["lot", "bits", "thing"] ["lot"] (defScope s_bits_of) := ⟨rfl, rfl, rfl, by decide +kernel, rfl, by decide +kernel, by decide +kernel⟩
def R_bits_of (ds : List PyData) (d : PyData) : Prop := ∃ l : List Nat, (∀ t ∈ l, t ≤ 100) ∧ ds = [lotD l] ∧ d = nt (bitsOf l)
theorem ok_bits_of (F : Fun K "bits_of" "bits_of" s_bits_of f fd) : FnOk P w K mg base CX0 1 f fd ["lot"] (spP K R_bits_of) := by
  refine fun_pure F sc_bits_of (fun ds d ⟨l, _, e, _⟩ => by rw [e]; rfl) (fun cdv A outer s H E hr ds d ⟨l, hl, e1, e2⟩ => ?_)
  subst e1 e2
  refine ex_cons (e1_set 1 (ev_p (evn_k 0) ?_) sc_bits_of.nd)
  refine ex_cons (e1_forG 2 l nt (fun i => [some (.d (lotD l)), some (.d (nt (bitsOf (l.take i)))), none]) (evi_tup (evp_var 0)) rfl (fun _ => rfl) (fun i t ht => ?_) ?_ PassesOwn.never rfl sc_bits_of.nd)
  · refine ex_one (e1_set 1 (ev_p (evn_or (evp_var 1) (evn_shl (evp_var 2) ?_)) ?_) sc_bits_of.nd)
    · have := hl t (List.mem_of_getElem? ht)
      omega
    · rw [take_snoc ht, bitsOf_snoc]
      rfl
  · rw [List.take_length]
    exact ex_one (e1_ret (ev_p (evp_var 1) rfl))
theorem sc_lot_of : FnScope ["bits", "thing"] ["bits"] (defScope s_lot_of) := ⟨rfl, rfl, rfl, by decide +kernel, rfl, by decide +kernel, by decide +kernel⟩
def R_lot_of (ds : List PyData) (d : PyData) : Prop := ∃ b : Nat, ds = [nt b] ∧ d = lotM b
theorem ok_lot_of (F : Fun K "lot_of" "lot_of" s_lot_of f fd) (T : Mg mg) : FnOk P w K mg base CX0 1 f fd ["bits"] (spP K R_lot_of) := by
  refine fun_pure F sc_lot_of (fun ds d ⟨b, e, _⟩ => by rw [e]; rfl) (fun cdv A outer s H E hr ds d ⟨b, e1, e2⟩ => ?_)
  subst e1 e2
  refine ex_one (e1_ret (ev_p (evp_tupL T.tuple (evf_p (evf_lc (own := [("thing", 1)]) (gt := gName 1) rfl sc_lot_of.nd (blkOk_by (own := [("thing", 1)]) (N := ["bits", "thing"]) (sc := defScope s_lot_of) (by decide +kernel)) (fun _ _ _ _ _ => pg_name (i := 1) sc_lot_of.nd rfl (Or.inl rfl))
    (lc_mk (List.range 10) nt (fun t => b.testBit t) nt (fun t => [some (.d (nt b)), some (.d (nt t))]) (evi_rng (n := 10) T.range (evp_glob rfl T.mxT) (by decide)) (by decide) (fun t _ => tgt_name rfl)
      (fun _ _ _ _ _ t _ => evc_one (etn_bit1 (evp_var 0) (evp_var 1))) (fun _ _ _ _ _ t _ _ => evp_var 1))))) rfl))
theorem sc_lot_key : FnScope ["lot"] ["lot"] (defScope s_lot_key) := ⟨rfl, rfl, rfl, by decide +kernel, rfl, by decide +kernel, by decide +kernel⟩
def R_lot_key (ds : List PyData) (d : PyData) : Prop := ∃ l : List Nat, ds = [lotD l] ∧ d = kd l
theorem ok_lot_key (F : Fun K "lot_key" "lot_key" s_lot_key f fd) (T : Mg mg) : FnOk P w K mg base CX0 1 f fd ["lot"] (spP K R_lot_key) := by
  refine fun_pure F sc_lot_key (fun ds d ⟨b, e, _⟩ => by rw [e]; rfl) (fun cdv A outer s H E hr ds d ⟨l, e1, e2⟩ => ?_)
  subst e1 e2
  refine ex_one (e1_ret (ev_p (evp_tup (eva_cons (evp_lenT T.len (evp_var 0)) (eva_1 (evp_var 0)))) ?_))
  show PyData.tuple [nt (l.map nt).length, lotD l] = kd l
  rw [List.length_map] <;> rfl
theorem sc_bits_key : FnScope ["bits"] ["bits"] (defScope s_bits_key) := ⟨rfl, rfl, rfl, by decide +kernel, rfl, by decide +kernel, by decide +kernel⟩
def R_bits_key (ds : List PyData) (d : PyData) : Prop := ∃ b : Nat, ds = [nt b] ∧ d = kdM b
theorem ok_bits_key (F : Fun K "bits_key" "bits_key" s_bits_key f fd) (Fl : FnP P w K mg base 1 "lot_of" ["bits"] (spP K R_lot_of)) (Fk : FnP P w K mg base 1 "lot_key" ["lot"] (spP K R_lot_key)) : FnOk P w K mg base CX0 2 f fd ["bits"] (spP K R_bits_key) := by
  refine fun_pure F sc_bits_key (fun ds d ⟨b, e, _⟩ => by rw [e]; rfl) (fun cdv A outer s H E hr ds d ⟨b, e1, e2⟩ => ?_)
  subst e1 e2
  exact ex_one (e1_ret (ev_p (evp_call Fk hr ⟨_, rfl, rfl⟩ (eva_1 (evp_call Fl hr ⟨_, rfl, rfl⟩ (eva_1 (evp_var 0))))) rfl))
theorem sc_ordered : FnScope ["many_bits"] ["many_bits"] (defScope s_ordered) := ⟨rfl, rfl, rfl, by decide +kernel, rfl, by decide +kernel, by decide +kernel⟩
def R_ordered (ds : List PyData) (d : PyData) : Prop := ∃ ms : List Nat, ms.length ≤ 100000 ∧ ds = [intsD ms] ∧ d = intsD (ord ms)
theorem small_line {n : Nat} (h : n ≤ 100000) : n ≤ sizeLine := Nat.le_trans h (by decide)
theorem ok_ordered (F : Fun K "ordered" "ordered" s_ordered f fd) (T : Mg mg) (Fk : FnP P w K mg base 2 "bits_key" ["bits"] (spP K R_bits_key)) : FnOk P w K mg base CX0 5 f fd ["many_bits"] (spP K R_ordered) := by
  refine fun_pure F sc_ordered (fun ds d ⟨b, _, e, _⟩ => by rw [e]; rfl) (fun cdv A outer s H E hr ds d ⟨ms, hl, e1, e2⟩ => ?_)
  subst e1 e2
  exact ex_one (e1_ret (ev_p (evf_p (evf_sortK ms nt kdM Fk hr rfl T.sorted (evp_var 0) (fun x _ => ⟨x, rfl, rfl⟩) (allAlike_kd ms lotOf) (sortable_kd ms lotOf) (fun x _ => depth_kd _) (small_line hl))) rfl))
end
end Mt

set_option maxHeartbeats 1000000
namespace Mt
open PySem PySem.Spec PyProof.Rows L2
/-! ### masks: what grows -/
theorem and_le_left (a b : Nat) : a &&& b ≤ a := (sub_xor a b).2
theorem le_or (a b : Nat) : a ≤ a ||| b := by
  have h := and_le_left (a ||| b) a
  have e : (a ||| b) &&& a = a := by
    apply Nat.eq_of_testBit_eq
    intro i
    rw [Nat.testBit_and, Nat.testBit_or]
    cases a.testBit i <;> simp
  rw [e] at h
  exact h
theorem rnd_foldl (rs : List Ru) (b : Nat) : ∀ f, f ≤ rs.foldl (fun f r => if b &&& r.1 = r.1 then f ||| r.2 else f) f := by
  induction rs with
  | nil => intro f; exact Nat.le_refl _
  | cons r rs ih =>
    intro f
    rw [List.foldl_cons]
    refine Nat.le_trans ?_ (ih _)
    split
    · exact le_or _ _
    · exact Nat.le_refl _
theorem le_rnd (rs : List Ru) (b : Nat) : b ≤ rnd rs b := rnd_foldl rs b b
theorem rnd_lt {n : Nat} {rs : List Ru} {b : Nat} (hr : ∀ r ∈ rs, r.1 < 2 ^ n ∧ r.2 < 2 ^ n) (hb : b < 2 ^ n) : rnd rs b < 2 ^ n := by
  unfold rnd
  have : ∀ (rs : List Ru) (f : Nat), (∀ r ∈ rs, r.1 < 2 ^ n ∧ r.2 < 2 ^ n) → f < 2 ^ n → rs.foldl (fun f r => if b &&& r.1 = r.1 then f ||| r.2 else f) f < 2 ^ n := by
    intro rs
    induction rs with
    | nil => intro f _ h; exact h
    | cons r rs ih =>
      intro f hr h
      rw [List.foldl_cons]
      refine ih _ (fun r hm => hr r (List.mem_cons_of_mem _ hm)) ?_
      split
      · exact Nat.or_lt_two_pow h (hr r List.mem_cons_self).2
      · exact h
  exact this rs b hr hb
theorem itr_lt {n : Nat} {rs : List Ru} {b : Nat} (hr : ∀ r ∈ rs, r.1 < 2 ^ n ∧ r.2 < 2 ^ n) (hb : b < 2 ^ n) : ∀ k, itr rs k b < 2 ^ n
  | 0 => hb
  | k + 1 => rnd_lt hr (itr_lt hr hb k)
theorem itr_fix {rs : List Ru} {b k : Nat} (h : rnd rs (itr rs k b) = itr rs k b) : ∀ j, itr rs (k + j) b = itr rs k b
  | 0 => rfl
  | j + 1 => by
    show rnd rs (itr rs (k + j) b) = _
    rw [itr_fix h j, h]
theorem clo_lt {n : Nat} {rs : List Ru} {b : Nat} (hr : ∀ r ∈ rs, r.1 < 2 ^ n ∧ r.2 < 2 ^ n) (hb : b < 2 ^ n) : clo rs b < 2 ^ n := itr_lt hr hb 1024
section
variable {P : Program} {w : World} {K : PySem.W.Frag} {mg : Str → Option Value} {base : Heap} {f : Addr} {fd : FuncData}
theorem sc_rule_bits : FnScope ["book", "ahead", "behind"] ["book"] (defScope s_rule_bits) := ⟨rfl, rfl, rfl, by decide +kernel, rfl, by decide +kernel, by decide +kernel⟩
def R_rule_bits (ds : List PyData) (d : PyData) : Prop := ∃ n rs, Bk n rs ∧ ds = [bookD n rs] ∧ d = rulesD rs
theorem ok_rule_bits (F : Fun K "rule_bits" "rule_bits" s_rule_bits f fd) (Fb : FnP P w K mg base 1 "bits_of" ["lot"] (spP K R_bits_of)) : FnOk P w K mg base CX0 2 f fd ["book"] (spP K R_rule_bits) := by
  refine fun_pure F sc_rule_bits (fun ds d ⟨_, _, _, e, _⟩ => by rw [e]; rfl) (fun cdv A outer s H E hr ds d ⟨n, rs, hb, e1, e2⟩ => ?_)
  subst e1 e2
  have lo : ∀ m, m < 2 ^ n → R_bits_of [lotM m] (nt m) := fun m hm => ⟨lotOf m, fun t ht => by have := (mem_lotOf.mp ht).1; omega, rfl, by rw [bitsOf_lotOf (lt10 hb.n10 hm)]⟩
  exact ex_one (e1_ret (ev_p (evf_p (evf_c2 sc_rule_bits (k := 1) (m := 2) (lc2n 1 2 rs (fun r => lotM r.1) (fun r => lotM r.2) (fun r => .tuple [nt r.1, nt r.2]) (evi_tup (evp_ixT (evp_var 0) (evn_k 1) rfl)) (Nat.le_trans hb.few (by decide))
    (fun _ _ _ _ _ r hm => evp_tup (eva_cons (evp_call Fb hr (lo _ (hb.lt r hm).1) (eva_1 (evp_var 1))) (eva_1 (evp_call Fb hr (lo _ (hb.lt r hm).2) (eva_1 (evp_var 2)))))))
    (hg := fun _ _ _ _ _ => pg_tup rfl (pgs_cons (pg_name (i := 1) sc_rule_bits.nd rfl (Or.inl rfl)) (pgs_cons (pg_name (i := 2) sc_rule_bits.nd rfl (Or.inl rfl)) pgs_nil))))) rfl))
theorem sc_is_kept : FnScope ["rules", "bits", "ahead", "behind"] ["rules", "bits"] (defScope s_is_kept) := ⟨rfl, rfl, rfl, by decide +kernel, rfl, by decide +kernel, by decide +kernel⟩
def R_is_kept (ds : List PyData) (d : PyData) : Prop := ∃ rs b, ds = [rulesD rs, nt b] ∧ d = .bool (kept rs b)
theorem ok_is_kept (F : Fun K "is_kept" "is_kept" s_is_kept f fd) : FnOk P w K mg base CX0 1 f fd ["rules", "bits"] (spP K R_is_kept) := by
  refine fun_pure F sc_is_kept (fun ds d ⟨_, _, e, _⟩ => by rw [e]; rfl) (fun cdv A outer s H E hr ds d ⟨rs, b, e1, e2⟩ => ?_)
  subst e1 e2
  refine ex_cons (e1_drop 2 (e1_drop 3 (e1_for2 2 3 rs (fun r => nt r.1) (fun r => nt r.2) (fun i Γ => Γ = [some (.d (rulesD rs)), some (.d (nt b)), none, none] ∧ kept (rs.take i) b = true) (evi_list (evp_var 0)) ⟨rfl, rfl⟩
    (fun Γ i h => by rw [h.1]; exact ⟨rfl, rfl⟩) (by decide) (fun i r Γ hx ⟨h1, h2⟩ => ?_) (fun Γ ⟨h1, h2⟩ => ?_) PassesOwn.never rfl sc_is_kept.nd
    (hq1 := pgs_cons (pg_name (i := 2) sc_is_kept.nd rfl (Or.inl rfl)) (pgs_cons (pg_name (i := 3) sc_is_kept.nd rfl (Or.inl rfl)) pgs_nil)))))
  · subst h1
    refine ex_one (e1_if (evt_and (etn_eq (evn_and (evp_var 1) (evp_var 2)) (evp_var 2)) (fun _ => etn_ne (evn_and (evp_var 1) (evp_var 3)) (evp_var 3))) (fun hk => ?_) (fun hk => ?_))
    · refine ex_one (e1_ret (ev_p evp_bool ?_))
      have : kept rs b = false := by
        unfold kept
        rw [List.all_eq_false]
        exact ⟨r, List.mem_of_getElem? hx, by rw [hk]; decide⟩
      show PyData.bool false = PyData.bool (kept rs b)
      rw [this]
    · refine ex_dropN 3 (ex_dropN 2 (ex_nil ⟨rfl, ?_⟩))
      rw [take_snoc hx]
      unfold kept at h2 ⊢
      rw [List.all_append, h2]
      show (true && ((!(decide (b &&& r.1 = r.1) && !decide (b &&& r.2 = r.2))) && true)) = true
      rw [hk]
      rfl
  · subst h1
    rw [List.take_length] at h2
    exact ex_one (e1_ret (ev_p evp_bool (by rw [h2]; rfl)))
theorem sc_bits_round : FnScope ["rules", "bits", "found", "ahead", "behind"] ["rules", "bits"] (defScope s_bits_round) := ⟨rfl, rfl, rfl, by decide +kernel, rfl, by decide +kernel, by decide +kernel⟩
def R_bits_round (ds : List PyData) (d : PyData) : Prop := ∃ rs b, ds = [rulesD rs, nt b] ∧ d = nt (rnd rs b)
theorem foldl_snoc {α β : Type} {l : List α} {i : Nat} {x : α} {g : β → α → β} {z : β} (h : l[i]? = some x) : (l.take (i + 1)).foldl g z = g ((l.take i).foldl g z) x := by
  rw [take_snoc h, List.foldl_append] <;> rfl
theorem ok_bits_round (F : Fun K "bits_round" "bits_round" s_bits_round f fd) : FnOk P w K mg base CX0 1 f fd ["rules", "bits"] (spP K R_bits_round) := by
  refine fun_pure F sc_bits_round (fun ds d ⟨_, _, e, _⟩ => by rw [e]; rfl) (fun cdv A outer s H E hr ds d ⟨rs, b, e1, e2⟩ => ?_)
  subst e1 e2
  refine ex_cons (e1_set 2 (ev_p (evp_var 1) ?_) sc_bits_round.nd)
  refine ex_cons (e1_for2G 3 4 rs (fun r => nt r.1) (fun r => nt r.2) (fun i => [some (.d (rulesD rs)), some (.d (nt b)), some (.d (nt ((rs.take i).foldl (fun f r => if b &&& r.1 = r.1 then f ||| r.2 else f) b))), none, none]) (evi_list (evp_var 0)) rfl
    (fun _ => ⟨rfl, rfl⟩) (by decide) (fun i r hx => ?_) ?_ PassesOwn.never rfl sc_bits_round.nd (pgs_cons (pg_name (i := 3) sc_bits_round.nd rfl (Or.inl rfl)) (pgs_cons (pg_name (i := 4) sc_bits_round.nd rfl (Or.inl rfl)) pgs_nil)))
  · refine ex_one (e1_if (etn_eq (evn_and (evp_var 1) (evp_var 3)) (evp_var 3)) (fun hk => ?_) (fun hk => ?_))
    · refine ex_one (e1_set 2 (ev_p (evn_or (evp_var 2) (evp_var 4)) ?_) sc_bits_round.nd)
      rw [foldl_snoc hx, if_pos (of_decide_eq_true hk)]
      rfl
    · refine ex_nil ?_
      rw [foldl_snoc hx, if_neg (of_decide_eq_false hk)]
      rfl
  · rw [List.take_length]
    exact ex_one (e1_ret (ev_p (evp_var 2) rfl))
theorem sc_bits_closure : FnScope ["rules", "bits", "further"] ["rules", "bits"] (defScope s_bits_closure) := ⟨rfl, rfl, rfl, by decide +kernel, rfl, by decide +kernel, by decide +kernel⟩
def R_bits_closure (ds : List PyData) (d : PyData) : Prop := ∃ rs b, (∀ r ∈ rs, r.1 < 2 ^ 10 ∧ r.2 < 2 ^ 10) ∧ b < 2 ^ 10 ∧ ds = [rulesD rs, nt b] ∧ d = nt (clo rs b)
theorem ok_bits_closure (F : Fun K "bits_closure" "bits_closure" s_bits_closure f fd) (Fr : FnP P w K mg base 1 "bits_round" ["rules", "bits"] (spP K R_bits_round)) : FnOk P w K mg base CX0 2 f fd ["rules", "bits"] (spP K R_bits_closure) := by
  refine fun_pure F sc_bits_closure (fun ds d ⟨_, _, _, _, e, _⟩ => by rw [e]; rfl) (fun cdv A outer s H E hr ds d ⟨rs, b, hrs, hb, e1, e2⟩ => ?_)
  subst e1 e2
  refine ex_cons (e1_set 2 (ev_p (evp_call Fr hr ⟨rs, b, rfl, rfl⟩ (eva_cons (evp_var 0) (eva_1 (evp_var 1)))) ?_) sc_bits_closure.nd)
  refine ex_cons (e1_while (fun m Γ => ∃ k, k ≤ itr rs k b ∧ m = 1024 - itr rs k b ∧ Γ = [some (.d (rulesD rs)), some (.d (nt (itr rs k b))), some (.d (nt (rnd rs (itr rs k b))))]) (1024 - b) ⟨0, Nat.zero_le _, rfl, rfl⟩ (fun m Γ ⟨k, hk, hm, hΓ⟩ => ?_) PassesOwn.never)
  subst hΓ
  have hlt := itr_lt hrs hb k
  refine ⟨_, etn_ne (evp_var 2) (evp_var 1), fun hne => ?_, fun he => ?_⟩
  · refine ex_cons (e1_set 1 (ev_p (evp_var 2) ?_) sc_bits_closure.nd)
    refine ex_one (e1_set 2 (ev_p (evp_call Fr hr ⟨rs, rnd rs (itr rs k b), rfl, rfl⟩ (eva_cons (evp_var 0) (eva_1 (evp_var 1)))) ?_) sc_bits_closure.nd)
    have h1 := le_rnd rs (itr rs k b)
    have h2 : rnd rs (itr rs k b) ≠ itr rs k b := by
      intro z
      rw [decide_eq_true z] at hne
      cases hne
    have h3 : itr rs (k + 1) b = rnd rs (itr rs k b) := rfl
    have h4 := itr_lt hrs hb (k + 1)
    refine ⟨1024 - itr rs (k + 1) b, by omega, k + 1, by omega, rfl, rfl⟩
  · have h2 : rnd rs (itr rs k b) = itr rs k b := by
      by_cases z : rnd rs (itr rs k b) = itr rs k b
      · exact z
      · rw [decide_eq_false z] at he
        cases he
    have h3 : clo rs b = itr rs k b := by
      unfold clo
      have := itr_fix h2 (1024 - k)
      rw [show k + (1024 - k) = 1024 by omega] at this
      exact this
    refine ex_one (e1_ret (ev_p (evp_var 1) ?_))
    rw [h3]
    rfl
theorem sc_closed_bits : FnScope ["book", "rules", "bits"] ["book"] (defScope s_closed_bits) := ⟨rfl, rfl, rfl, by decide +kernel, rfl, by decide +kernel, by decide +kernel⟩
def R_closed_bits (ds : List PyData) (d : PyData) : Prop := ∃ n rs, Bk n rs ∧ ds = [bookD n rs] ∧ d = intsD (closed n rs)
theorem pow10 {n : Nat} (h : n ≤ 10) : 2 ^ n ≤ 1024 := Nat.pow_le_pow_right (by decide) h
theorem upto_map (n : Nat) : upto n = (List.range n).map nt := rfl
theorem evi_rngN {X : Cx} {e tg : Expr} {Γ : Gm} {p pos : Pos} {n : Nat} (hm : X.mg "range" = none) (h : EvP X e Γ (nt n)) (hn : n ≤ 100000) (hg : Gl X "range" := by rfl) (hs : starEach [e] X.env = [(false, eval e X.env)] := by rfl) (hs1 : starEach [e] X.env = (false, eval e X.env) :: starEach [] X.env := by rfl) :
    EvI X tg (.Call (.Name "range" p) [e] [] pos) Γ ((List.range n).map nt) := evi_rng hm h (Nat.lt_of_le_of_lt hn (by decide)) hg hs hs1
theorem ok_closed_bits (F : Fun K "closed_bits" "closed_bits" s_closed_bits f fd) (T : Mg mg) (Fr : FnP P w K mg base 2 "rule_bits" ["book"] (spP K R_rule_bits)) (Fk : FnP P w K mg base 1 "is_kept" ["rules", "bits"] (spP K R_is_kept)) (Fo : FnP P w K mg base 5 "ordered" ["many_bits"] (spP K R_ordered)) : FnOk P w K mg base CX0 6 f fd ["book"] (spP K R_closed_bits) := by
  refine fun_pure F sc_closed_bits (fun ds d ⟨_, _, _, e, _⟩ => by rw [e]; rfl) (fun cdv A outer s H E hr ds d ⟨n, rs, hb, e1, e2⟩ => ?_)
  subst e1 e2
  have hp := pow10 hb.n10
  refine ex_cons (e1_set 1 (ev_p (evp_call Fr (hr.mono (by decide)) ⟨n, rs, hb, rfl, rfl⟩ (eva_1 (evp_var 0))) ?_) sc_closed_bits.nd)
  have hl : ((List.range (2 ^ n)).filter (kept rs)).length ≤ 100000 := Nat.le_trans (List.length_filter_le ..) (by rw [List.length_range]; omega)
  exact ex_one (e1_ret (ev_p (evp_call Fo hr ⟨_, hl, rfl, rfl⟩ (eva_1 (evf_p (evf_c1 sc_closed_bits (lc1 2 (List.range (2 ^ n)) nt (kept rs) nt (evi_rngN T.range (evn_shl (evp_ixT (evp_var 0) (evn_k 0) rfl) (by have := hb.n10; omega)) (by omega)) (by rw [List.length_range]; omega)
    (fun _ _ _ _ _ b _ => evc_one (evt_val (evp_call Fk (hr.mono (by decide)) ⟨rs, b, rfl, rfl⟩ (eva_cons (evp_var 1) (eva_1 (evp_var 2)))))) (fun _ _ _ _ _ b _ _ => evp_var 2)))))) rfl))
end
end Mt

set_option maxHeartbeats 1000000
namespace Mt
open PySem PySem.Spec PyProof.Rows L2
theorem at_nt {cs : List Nat} {l : Nat} (h : l < cs.length) : atI (cs.map nt) ((l : Nat) : Int) = some (nt (cs.getD l 0)) := by
  refine atI_nat ?_
  rw [List.getElem?_map, List.getElem?_eq_getElem h, List.getD_eq_getElem?_getD, List.getElem?_eq_getElem h]
  rfl
theorem sd_le (a b : Nat) : sd a b ≤ a := by
  have h := sub_xor a b
  unfold sd
  omega
theorem sd_lt {n a b : Nat} (h : a < 2 ^ n) : sd a b < 2 ^ n := Nat.lt_of_le_of_lt (sd_le a b) h
def cls (n : Nat) (rs : List Ru) : List Nat := (List.range (2 ^ n)).map (clo rs)
theorem cls_len (n : Nat) (rs : List Ru) : (cls n rs).length = 2 ^ n := by simp [cls]
def tmf (cs : List Nat) (l : Nat) : Nat := (lotOf l).foldl (fun f t => sd f (cs.getD (sd l (2 ^ t)) 0)) (sd (cs.getD l 0) l)
abbrev ruleMD (r : Ru) : PyData := .tuple [lotM r.1, lotM r.2]
def dirR (n : Nat) (rs : List Ru) : List Ru := (ord (List.range (2 ^ n))).foldl (fun acc l => if tmf (cls n rs) l ≠ 0 then acc ++ [(l, tmf (cls n rs) l)] else acc) []
def aar (rs : List Ru) (l : Nat) : Nat := rs.foldl (fun f r => if sd r.1 l = 0 then f ||| r.2 else f) l
/-- what a search tells -/
def optD (o : Option PyData) : PyData := o.getD .none
theorem ord_perm (ms : List Nat) : (ord ms).Perm ms := List.mergeSort_perm ms _
theorem ord_len (ms : List Nat) : (ord ms).length = ms.length := List.length_mergeSort ..
theorem mem_ord {ms : List Nat} {b : Nat} : b ∈ ord ms ↔ b ∈ ms := (ord_perm ms).mem_iff
theorem aar_lt {n : Nat} {rs : List Ru} {b : Nat} (hr : ∀ r ∈ rs, r.2 < 2 ^ n) (hb : b < 2 ^ n) : aar rs b < 2 ^ n := by
  unfold aar
  have : ∀ (rs : List Ru) (f : Nat), (∀ r ∈ rs, r.2 < 2 ^ n) → f < 2 ^ n → rs.foldl (fun f r => if sd r.1 b = 0 then f ||| r.2 else f) f < 2 ^ n := by
    intro rs
    induction rs with
    | nil => intro f _ h; exact h
    | cons r rs ih =>
      intro f hr h
      rw [List.foldl_cons]
      refine ih _ (fun r hm => hr r (List.mem_cons_of_mem _ hm)) ?_
      split
      · exact Nat.or_lt_two_pow h (hr r List.mem_cons_self)
      · exact h
  exact this rs b hr hb
section
variable {P : Program} {w : World} {K : PySem.W.Frag} {mg : Str → Option Value} {base : Heap} {f : Addr} {fd : FuncData}
theorem lo_bits {m : Nat} (h : m < 2 ^ 10) : R_bits_of [lotM m] (nt m) := ⟨lotOf m, fun t ht => by have := (mem_lotOf.mp ht).1; omega, rfl, by rw [bitsOf_lotOf h]⟩
theorem sc_closure_in : FnScope ["closed", "bits", "own"] ["closed", "bits"] (defScope s_closure_in) := ⟨rfl, rfl, rfl, by decide +kernel, rfl, by decide +kernel, by decide +kernel⟩
def R_closure_in (ds : List PyData) (d : PyData) : Prop := ∃ (cs : List Nat) (b : Nat), ds = [intsD cs, nt b] ∧ d = optD ((cs.find? fun o => o &&& b = b).map nt)
theorem find_take {α : Type} {p : α → Bool} {l : List α} {i : Nat} {x : α} (h : l[i]? = some x) (hn : ∀ y ∈ l.take i, p y = false) (hx : p x = true) : l.find? p = some x := by
  have hl := (List.getElem?_eq_some_iff.mp h).1
  have e : l = l.take i ++ (x :: l.drop (i + 1)) := by
    have := List.take_append_drop i l
    rw [List.drop_eq_getElem_cons hl, (List.getElem?_eq_some_iff.mp h).2] at this
    exact this.symm
  rw [e, List.find?_append, List.find?_eq_none.mpr (fun y hy => by rw [hn y hy]; simp), Option.none_or, List.find?_cons, hx]
theorem ok_closure_in (F : Fun K "closure_in" "closure_in" s_closure_in f fd) : FnOk P w K mg base CX0 1 f fd ["closed", "bits"] (spP K R_closure_in) := by
  refine fun_pure F sc_closure_in (fun ds d ⟨_, _, e, _⟩ => by rw [e]; rfl) (fun cdv A outer s H E hr ds d ⟨cs, b, e1, e2⟩ => ?_)
  subst e1 e2
  refine ex_cons (e1_drop 2 (e1_for 2 cs nt (fun i Γ => Γ = [some (.d (intsD cs)), some (.d (nt b)), none] ∧ ∀ y ∈ cs.take i, decide (y &&& b = b) = false) (evi_list (evp_var 0)) ⟨rfl, by simp⟩
    (fun Γ i h => by rw [h.1]; rfl) (fun i o Γ hx ⟨h1, h2⟩ => ?_) (fun Γ ⟨h1, h2⟩ => ?_) PassesOwn.never rfl sc_closure_in.nd))
  · subst h1
    refine ex_one (e1_if (etn_eq (evn_and (evp_var 2) (evp_var 1)) (evp_var 1)) (fun hk => ?_) (fun hk => ?_))
    · refine ex_one (e1_ret (ev_p (evp_var 2) ?_))
      rw [find_take hx h2 hk]
      rfl
    · refine ex_dropN 2 (ex_nil ⟨rfl, fun y hy => ?_⟩)
      rw [take_snoc hx] at hy
      rcases List.mem_append.mp hy with hy | hy
      · exact h2 y hy
      · rw [show y = o by simpa using hy]
        exact hk
  · subst h1
    rw [List.take_length] at h2
    refine ex_one (e1_ret (ev_p evp_none ?_))
    rw [List.find?_eq_none.mpr (fun y hy => by rw [h2 y hy]; simp)]
    rfl
theorem sc_closure : FnScope ["book", "lot"] ["book", "lot"] (defScope s_closure) := ⟨rfl, rfl, rfl, by decide +kernel, rfl, by decide +kernel, by decide +kernel⟩
def R_closure (ds : List PyData) (d : PyData) : Prop := ∃ n rs b, Bk n rs ∧ b < 2 ^ n ∧ ds = [bookD n rs, lotM b] ∧ d = lotM (clo rs b)
theorem Bk.r10 {n : Nat} {rs : List Ru} (h : Bk n rs) : ∀ r ∈ rs, r.1 < 2 ^ 10 ∧ r.2 < 2 ^ 10 := fun r hr => ⟨lt10 h.n10 (h.lt r hr).1, lt10 h.n10 (h.lt r hr).2⟩
theorem ok_closure (F : Fun K "closure" "closure" s_closure f fd) (Fr : FnP P w K mg base 2 "rule_bits" ["book"] (spP K R_rule_bits)) (Fb : FnP P w K mg base 1 "bits_of" ["lot"] (spP K R_bits_of)) (Fc : FnP P w K mg base 2 "bits_closure" ["rules", "bits"] (spP K R_bits_closure)) (Fl : FnP P w K mg base 1 "lot_of" ["bits"] (spP K R_lot_of)) : FnOk P w K mg base CX0 3 f fd ["book", "lot"] (spP K R_closure) := by
  refine fun_pure F sc_closure (fun ds d ⟨_, _, _, _, _, e, _⟩ => by rw [e]; rfl) (fun cdv A outer s H E hr ds d ⟨n, rs, b, hb, hl, e1, e2⟩ => ?_)
  subst e1 e2
  exact ex_one (e1_ret (ev_p (evp_call Fl (hr.mono (by decide)) ⟨_, rfl, rfl⟩ (eva_1 (evp_call Fc hr ⟨rs, b, hb.r10, lt10 hb.n10 hl, rfl, rfl⟩ (eva_cons (evp_call Fr hr ⟨n, rs, hb, rfl, rfl⟩ (eva_1 (evp_var 0))) (eva_1 (evp_call Fb (hr.mono (by decide)) (lo_bits (lt10 hb.n10 hl)) (eva_1 (evp_var 1)))))))) rfl))
theorem sc_is_within : FnScope ["one", "other"] ["one", "other"] (defScope s_is_within) := ⟨rfl, rfl, rfl, by decide +kernel, rfl, by decide +kernel, by decide +kernel⟩
def R_is_within (ds : List PyData) (d : PyData) : Prop := ∃ a b : Nat, ds = [nt a, nt b] ∧ d = .bool (decide (sd a b = 0))
theorem ok_is_within (F : Fun K "is_within" "is_within" s_is_within f fd) : FnOk P w K mg base CX0 1 f fd ["one", "other"] (spP K R_is_within) := by
  refine fun_pure F sc_is_within (fun ds d ⟨_, _, e, _⟩ => by rw [e]; rfl) (fun cdv A outer s H E hr ds d ⟨a, b, e1, e2⟩ => ?_)
  subst e1 e2
  exact ex_one (e1_ret (ev_p (evn_eq (evn_sd (evp_var 0) (evp_var 1)) (evn_k 0)) rfl))
theorem sc_bits_rule : FnScope ["ahead", "behind"] ["ahead", "behind"] (defScope s_bits_rule) := ⟨rfl, rfl, rfl, by decide +kernel, rfl, by decide +kernel, by decide +kernel⟩
def R_bits_rule (ds : List PyData) (d : PyData) : Prop := ∃ a b : Nat, ds = [nt a, nt b] ∧ d = ruleMD (a, b)
theorem ok_bits_rule (F : Fun K "bits_rule" "bits_rule" s_bits_rule f fd) (Fl : FnP P w K mg base 1 "lot_of" ["bits"] (spP K R_lot_of)) : FnOk P w K mg base CX0 2 f fd ["ahead", "behind"] (spP K R_bits_rule) := by
  refine fun_pure F sc_bits_rule (fun ds d ⟨_, _, e, _⟩ => by rw [e]; rfl) (fun cdv A outer s H E hr ds d ⟨a, b, e1, e2⟩ => ?_)
  subst e1 e2
  exact ex_one (e1_ret (ev_p (evp_tup (eva_cons (evp_call Fl hr ⟨_, rfl, rfl⟩ (eva_1 (evp_var 0))) (eva_1 (evp_call Fl hr ⟨_, rfl, rfl⟩ (eva_1 (evp_var 1)))))) rfl))
theorem sc_things_made_first : FnScope ["closures", "lot", "found", "thing"] ["closures", "lot"] (defScope s_things_made_first) := ⟨rfl, rfl, rfl, by decide +kernel, rfl, by decide +kernel, by decide +kernel⟩
def R_things_made_first (ds : List PyData) (d : PyData) : Prop := ∃ (cs : List Nat) (l : Nat), l < cs.length ∧ ds = [intsD cs, nt l] ∧ d = nt (tmf cs l)
theorem ok_things_made_first (F : Fun K "things_made_first" "things_made_first" s_things_made_first f fd) (Fl : FnP P w K mg base 1 "lot_of" ["bits"] (spP K R_lot_of)) : FnOk P w K mg base CX0 2 f fd ["closures", "lot"] (spP K R_things_made_first) := by
  refine fun_pure F sc_things_made_first (fun ds d ⟨_, _, _, e, _⟩ => by rw [e]; rfl) (fun cdv A outer s H E hr ds d ⟨cs, l, hl, e1, e2⟩ => ?_)
  subst e1 e2
  refine ex_cons (e1_set 2 (ev_p (evn_sd (evp_ixL (evp_var 0) (evp_var 1) (at_nt hl)) (evp_var 1)) ?_) sc_things_made_first.nd)
  refine ex_cons (e1_forG 3 (lotOf l) nt (fun i => [some (.d (intsD cs)), some (.d (nt l)), some (.d (nt (((lotOf l).take i).foldl (fun f t => sd f (cs.getD (sd l (2 ^ t)) 0)) (sd (cs.getD l 0) l)))), none]) (evi_tup (evp_call Fl hr ⟨_, rfl, rfl⟩ (eva_1 (evp_var 1)))) rfl (fun _ => rfl) (fun i t ht => ?_) ?_ PassesOwn.never rfl sc_things_made_first.nd)
  · have ht10 := (mem_lotOf.mp (List.mem_of_getElem? ht)).1
    refine ex_one (e1_set 2 (ev_p (evn_sd (evp_var 2) (evp_ixL (evp_var 0) (evn_sd (evp_var 1) (evn_shl (evp_var 3) (by omega))) (at_nt (Nat.lt_of_le_of_lt (sd_le _ _) hl)))) ?_) sc_things_made_first.nd)
    rw [foldl_snoc ht]
    rfl
  · rw [List.take_length]
    exact ex_one (e1_ret (ev_p (evp_var 2) rfl))
theorem sc_direct : FnScope ["book", "rules", "closures", "found", "lot", "made"] ["book"] (defScope s_direct) := ⟨rfl, rfl, rfl, by decide +kernel, rfl, by decide +kernel, by decide +kernel⟩
def R_direct (ds : List PyData) (d : PyData) : Prop := ∃ n rs, Bk n rs ∧ ds = [bookD n rs] ∧ d = .tuple ((dirR n rs).map ruleMD)
theorem ok_direct (F : Fun K "direct" "direct" s_direct f fd) (T : Mg mg) (Fr : FnP P w K mg base 2 "rule_bits" ["book"] (spP K R_rule_bits)) (Fc : FnP P w K mg base 2 "bits_closure" ["rules", "bits"] (spP K R_bits_closure)) (Fo : FnP P w K mg base 5 "ordered" ["many_bits"] (spP K R_ordered))
    (Ft : FnP P w K mg base 2 "things_made_first" ["closures", "lot"] (spP K R_things_made_first)) (Fm : FnP P w K mg base 2 "bits_rule" ["ahead", "behind"] (spP K R_bits_rule)) : FnOk P w K mg base CX0 6 f fd ["book"] (spP K R_direct) := by
  refine fun_pure F sc_direct (fun ds d ⟨_, _, _, e, _⟩ => by rw [e]; rfl) (fun cdv A outer s H E hr ds d ⟨n, rs, hb, e1, e2⟩ => ?_)
  subst e1 e2
  have hp := pow10 hb.n10
  have hn := hb.n10
  refine ex_cons (e1_set 1 (ev_p (evp_call Fr (hr.mono (by decide)) ⟨n, rs, hb, rfl, rfl⟩ (eva_1 (evp_var 0))) ?_) sc_direct.nd)
  refine ex_cons (e1_setC1 sc_direct 2 (lc1n 4 (List.range (2 ^ n)) nt (fun b => nt (clo rs b)) (evi_rngN T.range (evn_shl (evp_ixT (evp_var 0) (evn_k 0) rfl) (by omega)) (by omega)) (by rw [List.length_range]; omega)
    (fun _ _ _ _ _ b hm => evp_call Fc (hr.mono (by decide)) ⟨rs, b, hb.r10, lt10 hn (List.mem_range.mp hm), rfl, rfl⟩ (eva_cons (evp_var 1) (eva_1 (evp_var 4))))) ?_)
  have ec : (List.range (2 ^ n)).map (fun b => nt (clo rs b)) = (cls n rs).map nt := by rw [cls, List.map_map] <;> rfl
  rw [ec]
  refine ex_cons (e1_setF 3 (evf_lst eva_nil) (by show 3 < 6; decide) ?_ sc_direct.nd)
  refine ex_cons (e1_forG 4 (ord (List.range (2 ^ n))) nt (fun i => [some (.d (bookD n rs)), some (.d (rulesD rs)), some (.d (intsD (cls n rs))), some (.l ((((ord (List.range (2 ^ n))).take i).foldl (fun acc l => if tmf (cls n rs) l ≠ 0 then acc ++ [(l, tmf (cls n rs) l)] else acc) []).map ruleMD)), none, none])
    (evi_list (evp_call Fo hr ⟨_, by rw [List.length_range]; omega, rfl, rfl⟩ (eva_1 (evf_p (evf_listRg rfl T.list T.range (evn_shl (evp_ixT (evp_var 0) (evn_k 0) rfl) (by omega)) (by omega)))))) rfl (fun _ => rfl) (fun i l hx => ?_) ?_ PassesOwn.never rfl sc_direct.nd)
  · have hlt : l < (cls n rs).length := by
      rw [cls_len]
      exact List.mem_range.mp (mem_ord.mp (List.mem_of_getElem? hx))
    have hil : ((((ord (List.range (2 ^ n))).take i).foldl (fun acc l => if tmf (cls n rs) l ≠ 0 then acc ++ [(l, tmf (cls n rs) l)] else acc) []).map ruleMD).length ≤ 1024 := by
      have : ∀ (ls : List Nat) (acc : List Ru), (ls.foldl (fun acc l => if tmf (cls n rs) l ≠ 0 then acc ++ [(l, tmf (cls n rs) l)] else acc) acc).length ≤ acc.length + ls.length := by
        intro ls
        induction ls with
        | nil => intro acc; exact Nat.le_refl _
        | cons x ls ih =>
          intro acc
          rw [List.foldl_cons]
          refine Nat.le_trans (ih _) ?_
          split <;> simp <;> omega
      rw [List.length_map]
      refine Nat.le_trans (this _ _) ?_
      rw [List.length_take, ord_len, List.length_range]
      show 0 + _ ≤ _
      omega
    refine ex_dropN 5 (ex_cons (e1_set 5 (ev_p (evp_call Ft (hr.mono (by decide)) ⟨cls n rs, l, hlt, rfl, rfl⟩ (eva_cons (evp_var 2) (eva_1 (evp_var 4)))) ?_) sc_direct.nd))
    refine ex_one (e1_if (etn_ne (evp_var 5) (evn_k 0)) (fun hk => ?_) (fun hk => ?_))
    · refine ex_one (e1_app 3 (evp_call Fm (hr.mono (by decide)) ⟨l, tmf (cls n rs) l, rfl, rfl⟩ (eva_cons (evp_var 4) (eva_1 (evp_var 5)))) rfl (Nat.lt_of_le_of_lt hil (by decide)) ?_)
      rw [foldl_snoc hx, if_pos (by simpa using hk), List.map_append]
      rfl
    · refine ex_nil ?_
      rw [foldl_snoc hx, if_neg (by simpa using hk)]
      rfl
  · rw [List.take_length]
    exact ex_frz 3 rfl (ex_one (e1_ret (ev_p (evp_tupL T.tuple (evp_var 3)) rfl)))
theorem sc_after_a_round : FnScope ["rules", "lot", "found", "ahead", "behind"] ["rules", "lot"] (defScope s_after_a_round) := ⟨rfl, rfl, rfl, by decide +kernel, rfl, by decide +kernel, by decide +kernel⟩
def R_after_a_round (ds : List PyData) (d : PyData) : Prop := ∃ rs b, ds = [rulesD rs, nt b] ∧ d = nt (aar rs b)
theorem ok_after_a_round (F : Fun K "after_a_round" "after_a_round" s_after_a_round f fd) (Fw : FnP P w K mg base 1 "is_within" ["one", "other"] (spP K R_is_within)) : FnOk P w K mg base CX0 2 f fd ["rules", "lot"] (spP K R_after_a_round) := by
  refine fun_pure F sc_after_a_round (fun ds d ⟨_, _, e, _⟩ => by rw [e]; rfl) (fun cdv A outer s H E hr ds d ⟨rs, b, e1, e2⟩ => ?_)
  subst e1 e2
  refine ex_cons (e1_set 2 (ev_p (evp_var 1) ?_) sc_after_a_round.nd)
  refine ex_cons (e1_for2G 3 4 rs (fun r => nt r.1) (fun r => nt r.2) (fun i => [some (.d (rulesD rs)), some (.d (nt b)), some (.d (nt ((rs.take i).foldl (fun f r => if sd r.1 b = 0 then f ||| r.2 else f) b))), none, none]) (evi_list (evp_var 0)) rfl
    (fun _ => ⟨rfl, rfl⟩) (by decide) (fun i r hx => ?_) ?_ PassesOwn.never rfl sc_after_a_round.nd (pgs_cons (pg_name (i := 3) sc_after_a_round.nd rfl (Or.inl rfl)) (pgs_cons (pg_name (i := 4) sc_after_a_round.nd rfl (Or.inl rfl)) pgs_nil)))
  · refine ex_one (e1_if (evt_val (evp_call Fw hr ⟨r.1, b, rfl, rfl⟩ (eva_cons (evp_var 3) (eva_1 (evp_var 1))))) (fun hk => ?_) (fun hk => ?_))
    · refine ex_one (e1_set 2 (ev_p (evn_or (evp_var 2) (evp_var 4)) ?_) sc_after_a_round.nd)
      rw [foldl_snoc hx, if_pos (of_decide_eq_true hk)]
      rfl
    · refine ex_nil ?_
      rw [foldl_snoc hx, if_neg (of_decide_eq_false hk)]
      rfl
  · rw [List.take_length]
    exact ex_one (e1_ret (ev_p (evp_var 2) rfl))
theorem sc_first_far : FnScope ["size", "rules", "pairs", "lot", "once", "ahead", "behind"] ["size", "rules"] (defScope s_first_far) := ⟨rfl, rfl, rfl, by decide +kernel, rfl, by decide +kernel, by decide +kernel⟩
/-- where one round is enough for all lots -/
def R_first_far (ds : List PyData) (d : PyData) : Prop := ∃ n rs, Bk n rs ∧ (∀ l, l < 2 ^ n → aar rs (aar rs l) = aar rs l) ∧ ds = [nt n, .tuple (rs.map ruleMD)] ∧ d = .none
theorem ok_first_far (F : Fun K "first_far" "first_far" s_first_far f fd) (T : Mg mg) (Fb : FnP P w K mg base 1 "bits_of" ["lot"] (spP K R_bits_of)) (Fo : FnP P w K mg base 5 "ordered" ["many_bits"] (spP K R_ordered)) (Fa : FnP P w K mg base 2 "after_a_round" ["rules", "lot"] (spP K R_after_a_round)) : FnOk P w K mg base CX0 6 f fd ["size", "rules"] (spP K R_first_far) := by
  refine fun_pure F sc_first_far (fun ds d ⟨_, _, _, _, e, _⟩ => by rw [e]; rfl) (fun cdv A outer s H E hr ds d ⟨n, rs, hb, hone, e1, e2⟩ => ?_)
  subst e1 e2
  have hp := pow10 hb.n10
  have hn := hb.n10
  refine ex_cons (e1_setC2 sc_first_far 2 (k := 5) (m := 6) (lc2n 5 6 rs (fun r => lotM r.1) (fun r => lotM r.2) (fun r => .tuple [nt r.1, nt r.2]) (evi_tup (evp_var 1)) (Nat.le_trans hb.few (by decide))
    (fun _ _ _ _ _ r hm => evp_tup (eva_cons (evp_call Fb (hr.mono (by decide)) (lo_bits (hb.r10 r hm).1) (eva_1 (evp_var 5))) (eva_1 (evp_call Fb (hr.mono (by decide)) (lo_bits (hb.r10 r hm).2) (eva_1 (evp_var 6))))))) ?_
    (fun _ _ _ _ _ => pg_tup rfl (pgs_cons (pg_name (i := 5) sc_first_far.nd rfl (Or.inl rfl)) (pgs_cons (pg_name (i := 6) sc_first_far.nd rfl (Or.inl rfl)) pgs_nil))))
  refine ex_cons (e1_forG 3 (ord (List.range (2 ^ n))) nt (fun i => [some (.d (nt n)), some (.d (.tuple (rs.map ruleMD))), some (.d (rulesD rs)), none, none, none, none])
    (evi_list (evp_call Fo hr ⟨_, by rw [List.length_range]; omega, rfl, rfl⟩ (eva_1 (evf_p (evf_listRg rfl T.list T.range (evn_shl (evp_var 0) (by omega)) (by omega)))))) rfl (fun _ => rfl) (fun i l hx => ?_) ?_ PassesOwn.never rfl sc_first_far.nd)
  · have hlt : l < 2 ^ n := List.mem_range.mp (mem_ord.mp (List.mem_of_getElem? hx))
    refine ex_dropN 4 (ex_cons (e1_set 4 (ev_p (evp_call Fa (hr.mono (by decide)) ⟨rs, l, rfl, rfl⟩ (eva_cons (evp_var 2) (eva_1 (evp_var 3)))) ?_) sc_first_far.nd))
    refine ex_one (e1_if (etn_ne (evp_call Fa (hr.mono (by decide)) ⟨rs, aar rs l, rfl, rfl⟩ (eva_cons (evp_var 2) (eva_1 (evp_var 4)))) (evp_var 4)) (fun hk => ?_) (fun hk => ex_nil rfl))
    rw [hone l hlt, decide_eq_true rfl] at hk
    cases hk
  · exact ex_one (e1_ret (ev_p evp_none rfl))
end
end Mt

set_option maxHeartbeats 1000000
namespace Mt
open PySem PySem.Spec PyProof.Rows L2
def mab (n : Nat) (cs : List Nat) (b : Nat) : Nat := cs.foldl (fun f o => if (!decide (o = b) && decide (o &&& b = b)) = true then f &&& o else f) (2 ^ n - 1)
def irr (n : Nat) (cs : List Nat) : List Nat := cs.filter fun b => !decide (mab n cs b = b)
def gre (ls : List Nat) : List Nat := ls.filter fun b => !(ls.map fun o => !decide (o = b) && decide (o &&& b = b)).any id
def tops (n : Nat) (rs : List Ru) (t : Nat) : List Nat := gre ((closed n rs).filter fun b => !b.testBit t)
def lst (ls : List Nat) : List Nat := (ord (onceL ls)).foldl (fun found b => if (found.map fun o => decide (o &&& b = o)).any id = true then found else found ++ [b]) []
def hitF (ne : List Nat) (found : List Nat) (b : Nat) : List Nat := if (found.map fun o => decide (o &&& b = o)).any id = true then found else if (ne.map fun o => !decide (b &&& o = 0)).all id = true then found ++ [b] else found
def hit (n : Nat) (ls : List Nat) : List Nat := (ord (List.range (2 ^ n))).foldl (hitF (lst ls)) []
def rests (n : Nat) (rs : List Ru) (t : Nat) : List Nat := (tops n rs t).map fun b => sd (sd (2 ^ n - 1) (2 ^ t)) b
abbrev lotsD (ls : List Nat) : PyData := .tuple (ls.map lotM)
theorem closed_len (n : Nat) (rs : List Ru) : (closed n rs).length ≤ 2 ^ n := by
  unfold closed
  rw [ord_len]
  exact Nat.le_trans (List.length_filter_le ..) (by rw [List.length_range]; exact Nat.le_refl _)
theorem mem_closed {n : Nat} {rs : List Ru} {b : Nat} : b ∈ closed n rs ↔ b < 2 ^ n ∧ kept rs b = true := by
  unfold closed
  rw [mem_ord, List.mem_filter, List.mem_range]
theorem closed_len' {n : Nat} {rs : List Ru} (h : Bk n rs) : (closed n rs).length ≤ 1024 := Nat.le_trans (closed_len n rs) (pow10 h.n10)
theorem tops_len {n : Nat} {rs : List Ru} (h : Bk n rs) (t : Nat) : (tops n rs t).length ≤ 1024 := Nat.le_trans (List.length_filter_le ..) (Nat.le_trans (List.length_filter_le ..) (closed_len' h))
theorem once_len (ls : List Nat) : (onceL ls).length ≤ ls.length := by
  have : ∀ (ls acc : List Nat), (ls.foldl (fun acc n => if n ∈ acc then acc else acc ++ [n]) acc).length ≤ acc.length + ls.length := by
    intro ls
    induction ls with
    | nil => intro acc; exact Nat.le_refl _
    | cons x ls ih =>
      intro acc
      rw [List.foldl_cons]
      refine Nat.le_trans (ih _) ?_
      split <;> simp <;> omega
  have h := this ls []
  rw [List.length_nil, Nat.zero_add] at h
  exact h
theorem foldl_len {α β : Type} {g : List β → α → List β} (hg : ∀ acc x, (g acc x).length ≤ acc.length + 1) : ∀ (ls : List α) (acc : List β), (ls.foldl g acc).length ≤ acc.length + ls.length
  | [], acc => Nat.le_refl _
  | x :: ls, acc => by
    rw [List.foldl_cons]
    refine Nat.le_trans (foldl_len hg ls _) ?_
    have := hg acc x
    rw [List.length_cons]
    omega
theorem hitF_len (ne found : List Nat) (b : Nat) : (hitF ne found b).length ≤ found.length + 1 := by
  unfold hitF
  split
  · omega
  · split <;> simp
section
variable {P : Program} {w : World} {K : PySem.W.Frag} {mg : Str → Option Value} {base : Heap} {f : Addr} {fd : FuncData}
theorem sc_whole_bits : FnScope ["size"] ["size"] (defScope s_whole_bits) := ⟨rfl, rfl, rfl, by decide +kernel, rfl, by decide +kernel, by decide +kernel⟩
def R_whole_bits (ds : List PyData) (d : PyData) : Prop := ∃ n : Nat, n ≤ 100 ∧ ds = [nt n] ∧ d = nt (2 ^ n - 1)
theorem ok_whole_bits (F : Fun K "whole_bits" "whole_bits" s_whole_bits f fd) : FnOk P w K mg base CX0 1 f fd ["size"] (spP K R_whole_bits) := by
  refine fun_pure F sc_whole_bits (fun ds d ⟨_, _, e, _⟩ => by rw [e]; rfl) (fun cdv A outer s H E hr ds d ⟨n, hn, e1, e2⟩ => ?_)
  subst e1 e2
  exact ex_one (e1_ret (ev_p (evn_sub Nat.one_le_two_pow (evn_shl (evp_var 0) (by omega)) (evn_k 1)) rfl))
theorem sc_meet_above : FnScope ["size", "closed", "bits", "found", "other"] ["size", "closed", "bits"] (defScope s_meet_above) := ⟨rfl, rfl, rfl, by decide +kernel, rfl, by decide +kernel, by decide +kernel⟩
def R_meet_above (ds : List PyData) (d : PyData) : Prop := ∃ (n : Nat) (cs : List Nat) (b : Nat), n ≤ 10 ∧ ds = [nt n, intsD cs, nt b] ∧ d = nt (mab n cs b)
theorem ok_meet_above (F : Fun K "meet_above" "meet_above" s_meet_above f fd) (Fw : FnP P w K mg base 1 "whole_bits" ["size"] (spP K R_whole_bits)) : FnOk P w K mg base CX0 2 f fd ["size", "closed", "bits"] (spP K R_meet_above) := by
  refine fun_pure F sc_meet_above (fun ds d ⟨_, _, _, _, e, _⟩ => by rw [e]; rfl) (fun cdv A outer s H E hr ds d ⟨n, cs, b, hn, e1, e2⟩ => ?_)
  subst e1 e2
  refine ex_cons (e1_set 3 (ev_p (evp_call Fw hr ⟨n, by omega, rfl, rfl⟩ (eva_1 (evp_var 0))) ?_) sc_meet_above.nd)
  refine ex_cons (e1_forG 4 cs nt (fun i => [some (.d (nt n)), some (.d (intsD cs)), some (.d (nt b)), some (.d (nt ((cs.take i).foldl (fun f o => if (!decide (o = b) && decide (o &&& b = b)) = true then f &&& o else f) (2 ^ n - 1)))), none]) (evi_list (evp_var 1)) rfl (fun _ => rfl) (fun i o hx => ?_) ?_ PassesOwn.never rfl sc_meet_above.nd)
  · refine ex_one (e1_if (evt_and (etn_ne (evp_var 4) (evp_var 2)) (fun _ => etn_eq (evn_and (evp_var 4) (evp_var 2)) (evp_var 2))) (fun hk => ?_) (fun hk => ?_))
    · refine ex_one (e1_set 3 (ev_p (evn_and (evp_var 3) (evp_var 4)) ?_) sc_meet_above.nd)
      rw [foldl_snoc hx, if_pos hk]
      rfl
    · refine ex_nil ?_
      rw [foldl_snoc hx, if_neg (by rw [hk]; decide)]
      rfl
  · rw [List.take_length]
    exact ex_one (e1_ret (ev_p (evp_var 3) rfl))
theorem sc_irreducible_bits : FnScope ["size", "closed", "bits"] ["size", "closed"] (defScope s_irreducible_bits) := ⟨rfl, rfl, rfl, by decide +kernel, rfl, by decide +kernel, by decide +kernel⟩
def R_irreducible_bits (ds : List PyData) (d : PyData) : Prop := ∃ (n : Nat) (cs : List Nat), n ≤ 10 ∧ cs.length ≤ 100000 ∧ ds = [nt n, intsD cs] ∧ d = intsD (irr n cs)
theorem ok_irreducible_bits (F : Fun K "irreducible_bits" "irreducible_bits" s_irreducible_bits f fd) (Fm : FnP P w K mg base 2 "meet_above" ["size", "closed", "bits"] (spP K R_meet_above)) : FnOk P w K mg base CX0 3 f fd ["size", "closed"] (spP K R_irreducible_bits) := by
  refine fun_pure F sc_irreducible_bits (fun ds d ⟨_, _, _, _, e, _⟩ => by rw [e]; rfl) (fun cdv A outer s H E hr ds d ⟨n, cs, hn, hl, e1, e2⟩ => ?_)
  subst e1 e2
  exact ex_one (e1_ret (ev_p (evf_p (evf_c1 sc_irreducible_bits (lc1 2 cs nt (fun b => !decide (mab n cs b = b)) nt (evi_list (evp_var 1)) hl
    (fun _ _ _ _ _ b _ => evc_one (etn_ne (evp_call Fm hr ⟨n, cs, b, hn, rfl, rfl⟩ (eva_cons (evp_var 0) (eva_cons (evp_var 1) (eva_1 (evp_var 2))))) (evp_var 2))) (fun _ _ _ _ _ b _ _ => evp_var 2)))) rfl))
theorem sc_table_made : FnScope ["size", "closed", "rows", "bits"] ["size", "closed"] (defScope s_table_made) := ⟨rfl, rfl, rfl, by decide +kernel, rfl, by decide +kernel, by decide +kernel⟩
def R_table_made (ds : List PyData) (d : PyData) : Prop := ∃ (n : Nat) (cs : List Nat), n ≤ 10 ∧ cs.length ≤ 100000 ∧ (irr n cs).length ≤ 60 ∧ ds = [nt n, intsD cs] ∧ d = .tuple [nt n, lotsD (irr n cs)]
theorem ok_table_made (F : Fun K "table_made" "table_made" s_table_made f fd) (T : Mg mg) (Fi : FnP P w K mg base 3 "irreducible_bits" ["size", "closed"] (spP K R_irreducible_bits)) (Fl : FnP P w K mg base 1 "lot_of" ["bits"] (spP K R_lot_of)) : FnOk P w K mg base CX0 4 f fd ["size", "closed"] (spP K R_table_made) := by
  refine fun_pure F sc_table_made (fun ds d ⟨_, _, _, _, _, e, _⟩ => by rw [e]; rfl) (fun cdv A outer s H E hr ds d ⟨n, cs, hn, hl, h60, e1, e2⟩ => ?_)
  subst e1 e2
  refine ex_cons (e1_setC1 sc_table_made 2 (lc1n 3 (irr n cs) nt lotM (evi_list (evp_call Fi hr ⟨n, cs, hn, hl, rfl, rfl⟩ (eva_cons (evp_var 0) (eva_1 (evp_var 1))))) (by omega)
    (fun _ _ _ _ _ b hm => evp_call Fl (hr.mono (by decide)) ⟨b, rfl, rfl⟩ (eva_1 (evp_var 3)))) ?_)
  refine ex_cons (e1_if (etn_gt (n := 60) (evp_lenL T.len (evp_var 2)) (evp_glob rfl T.mxR)) (fun hk => ?_) (fun hk => ex_nil ?_))
  · rw [List.length_map] at hk
    exact absurd (of_decide_eq_true hk) (by omega)
  · exact ex_one (e1_ret (ev_p (evp_tup (eva_cons (evp_var 0) (eva_1 (evp_tupL T.tuple (evp_var 2))))) rfl))
theorem sc_need_closed : FnScope ["closed", "lot", "bits"] ["closed", "lot"] (defScope s_need_closed) := ⟨rfl, rfl, rfl, by decide +kernel, rfl, by decide +kernel, by decide +kernel⟩
def R_need_closed (ds : List PyData) (d : PyData) : Prop := ∃ (cs : List Nat) (b : Nat), b < 2 ^ 10 ∧ b ∈ cs ∧ ds = [intsD cs, lotM b] ∧ d = nt b
theorem ok_need_closed (F : Fun K "need_closed" "need_closed" s_need_closed f fd) (Fb : FnP P w K mg base 1 "bits_of" ["lot"] (spP K R_bits_of)) : FnOk P w K mg base CX0 2 f fd ["closed", "lot"] (spP K R_need_closed) := by
  refine fun_pure F sc_need_closed (fun ds d ⟨_, _, _, _, e, _⟩ => by rw [e]; rfl) (fun cdv A outer s H E hr ds d ⟨cs, b, hb, hm, e1, e2⟩ => ?_)
  subst e1 e2
  refine ex_cons (e1_set 2 (ev_p (evp_call Fb hr (lo_bits hb) (eva_1 (evp_var 1))) ?_) sc_need_closed.nd)
  refine ex_cons (e1_if (etn_notIn (evp_var 2) (evp_var 0) (.inl rfl)) (fun hk => ?_) (fun hk => ex_nil ?_))
  · rw [decide_eq_true hm] at hk
    cases hk
  · exact ex_one (e1_ret (ev_p (evp_var 2) rfl))
theorem sc_table_of : FnScope ["book"] ["book"] (defScope s_table_of) := ⟨rfl, rfl, rfl, by decide +kernel, rfl, by decide +kernel, by decide +kernel⟩
def R_table_of (ds : List PyData) (d : PyData) : Prop := ∃ n rs, Bk n rs ∧ (irr n (closed n rs)).length ≤ 60 ∧ ds = [bookD n rs] ∧ d = .tuple [nt n, lotsD (irr n (closed n rs))]
theorem ok_table_of (F : Fun K "table_of" "table_of" s_table_of f fd) (Ft : FnP P w K mg base 4 "table_made" ["size", "closed"] (spP K R_table_made)) (Fc : FnP P w K mg base 6 "closed_bits" ["book"] (spP K R_closed_bits)) : FnOk P w K mg base CX0 7 f fd ["book"] (spP K R_table_of) := by
  refine fun_pure F sc_table_of (fun ds d ⟨_, _, _, _, e, _⟩ => by rw [e]; rfl) (fun cdv A outer s H E hr ds d ⟨n, rs, hb, h60, e1, e2⟩ => ?_)
  subst e1 e2
  exact ex_one (e1_ret (ev_p (evp_call Ft (hr.mono (by decide)) ⟨n, closed n rs, hb.n10, Nat.le_trans (closed_len' hb) (by decide), h60, rfl, rfl⟩ (eva_cons (evp_ixT (evp_var 0) (evn_k 0) rfl) (eva_1 (evp_call Fc hr ⟨n, rs, hb, rfl, rfl⟩ (eva_1 (evp_var 0)))))) rfl))
theorem sc_greatest_bits : FnScope ["lots", "bits", "other"] ["lots"] (defScope s_greatest_bits) := ⟨rfl, rfl, rfl, by decide +kernel, rfl, by decide +kernel, by decide +kernel⟩
def R_greatest_bits (ds : List PyData) (d : PyData) : Prop := ∃ ls : List Nat, ls.length ≤ 100000 ∧ ds = [intsD ls] ∧ d = intsD (gre ls)
theorem ok_greatest_bits (F : Fun K "greatest_bits" "greatest_bits" s_greatest_bits f fd) (T : Mg mg) : FnOk P w K mg base CX0 1 f fd ["lots"] (spP K R_greatest_bits) := by
  refine fun_pure F sc_greatest_bits (fun ds d ⟨_, _, e, _⟩ => by rw [e]; rfl) (fun cdv A outer s H E hr ds d ⟨ls, hl, e1, e2⟩ => ?_)
  subst e1 e2
  refine ex_one (e1_ret (ev_p (evf_p (evf_c1 sc_greatest_bits (lc1 1 ls nt (fun b => !(ls.map fun o => !decide (o = b) && decide (o &&& b = b)).any id) nt (evi_list (evp_var 0)) hl
    (fun s0 H0 C cl fp b _ => evc_one (evt_not (evt_val (evp_any rfl T.any ?_)))) (fun _ _ _ _ _ b _ _ => evp_var 1)))) rfl))
  rw [List.map_map]
  exact evf_p (evf_c1 sc_greatest_bits (lc1n 2 ls nt (fun o => .bool (!decide (o = b) && decide (o &&& b = b))) (evi_list (evp_var 0)) hl
    (fun _ _ _ _ _ o _ => evp_andB (evn_ne (evp_var 2) (evp_var 1)) (fun _ => evn_eq (evn_and (evp_var 2) (evp_var 1)) (evp_var 1)))))
theorem sc_without_bits : FnScope ["book", "thing", "bits"] ["book", "thing"] (defScope s_without_bits) := ⟨rfl, rfl, rfl, by decide +kernel, rfl, by decide +kernel, by decide +kernel⟩
def R_without_bits (ds : List PyData) (d : PyData) : Prop := ∃ n rs t, Bk n rs ∧ ds = [bookD n rs, nt t] ∧ d = intsD (tops n rs t)
theorem ok_without_bits (F : Fun K "without_bits" "without_bits" s_without_bits f fd) (Fg : FnP P w K mg base 1 "greatest_bits" ["lots"] (spP K R_greatest_bits)) (Fc : FnP P w K mg base 6 "closed_bits" ["book"] (spP K R_closed_bits)) : FnOk P w K mg base CX0 7 f fd ["book", "thing"] (spP K R_without_bits) := by
  refine fun_pure F sc_without_bits (fun ds d ⟨_, _, _, _, e, _⟩ => by rw [e]; rfl) (fun cdv A outer s H E hr ds d ⟨n, rs, t, hb, e1, e2⟩ => ?_)
  subst e1 e2
  have hl := Nat.le_trans (closed_len' hb) (by decide : 1024 ≤ 100000)
  exact ex_one (e1_ret (ev_p (evp_call Fg (hr.mono (by decide)) ⟨(closed n rs).filter fun b => !b.testBit t, Nat.le_trans (List.length_filter_le ..) hl, rfl, rfl⟩ (eva_1 (evf_p (evf_c1 sc_without_bits (lc1 2 (closed n rs) nt (fun b => !b.testBit t) nt (evi_list (evp_call Fc hr ⟨n, rs, hb, rfl, rfl⟩ (eva_1 (evp_var 0)))) hl
    (fun _ _ _ _ _ b _ => evc_one (etn_bit0 (evp_var 2) (evp_var 1))) (fun _ _ _ _ _ b _ _ => evp_var 2)))))) rfl))
theorem sc_greatest_without : FnScope ["book", "thing", "bits"] ["book", "thing"] (defScope s_greatest_without) := ⟨rfl, rfl, rfl, by decide +kernel, rfl, by decide +kernel, by decide +kernel⟩
def R_greatest_without (ds : List PyData) (d : PyData) : Prop := ∃ n rs t, Bk n rs ∧ ds = [bookD n rs, nt t] ∧ d = lotsD (tops n rs t)
theorem ok_greatest_without (F : Fun K "greatest_without" "greatest_without" s_greatest_without f fd) (T : Mg mg) (Fw : FnP P w K mg base 7 "without_bits" ["book", "thing"] (spP K R_without_bits)) (Fl : FnP P w K mg base 1 "lot_of" ["bits"] (spP K R_lot_of)) : FnOk P w K mg base CX0 8 f fd ["book", "thing"] (spP K R_greatest_without) := by
  refine fun_pure F sc_greatest_without (fun ds d ⟨_, _, _, _, e, _⟩ => by rw [e]; rfl) (fun cdv A outer s H E hr ds d ⟨n, rs, t, hb, e1, e2⟩ => ?_)
  subst e1 e2
  exact ex_one (e1_ret (ev_p (evp_tupL T.tuple (evf_p (evf_c1 sc_greatest_without (lc1n 2 (tops n rs t) nt lotM (evi_list (evp_call Fw hr ⟨n, rs, t, hb, rfl, rfl⟩ (eva_cons (evp_var 0) (eva_1 (evp_var 1))))) (Nat.le_trans (tops_len hb t) (by decide))
    (fun _ _ _ _ _ b hm => evp_call Fl (hr.mono (by decide)) ⟨b, rfl, rfl⟩ (eva_1 (evp_var 2))))))) rfl))
theorem sc_barred : FnScope ["book", "lot", "closed", "bits"] ["book", "lot"] (defScope s_barred) := ⟨rfl, rfl, rfl, by decide +kernel, rfl, by decide +kernel, by decide +kernel⟩
def R_barred (ds : List PyData) (d : PyData) : Prop := ∃ n rs b, Bk n rs ∧ b ∈ closed n rs ∧ ds = [bookD n rs, lotM b] ∧ d = lotM (sd (mab n (closed n rs) b) b)
theorem ok_barred (F : Fun K "barred" "barred" s_barred f fd) (Fc : FnP P w K mg base 6 "closed_bits" ["book"] (spP K R_closed_bits)) (Fn : FnP P w K mg base 2 "need_closed" ["closed", "lot"] (spP K R_need_closed)) (Fm : FnP P w K mg base 2 "meet_above" ["size", "closed", "bits"] (spP K R_meet_above)) (Fl : FnP P w K mg base 1 "lot_of" ["bits"] (spP K R_lot_of)) : FnOk P w K mg base CX0 7 f fd ["book", "lot"] (spP K R_barred) := by
  refine fun_pure F sc_barred (fun ds d ⟨_, _, _, _, _, e, _⟩ => by rw [e]; rfl) (fun cdv A outer s H E hr ds d ⟨n, rs, b, hb, hm, e1, e2⟩ => ?_)
  subst e1 e2
  refine ex_cons (e1_set 2 (ev_p (evp_call Fc hr ⟨n, rs, hb, rfl, rfl⟩ (eva_1 (evp_var 0))) ?_) sc_barred.nd)
  refine ex_cons (e1_set 3 (ev_p (evp_call Fn (hr.mono (by decide)) ⟨closed n rs, b, lt10 hb.n10 (mem_closed.mp hm).1, hm, rfl, rfl⟩ (eva_cons (evp_var 2) (eva_1 (evp_var 1)))) ?_) sc_barred.nd)
  exact ex_one (e1_ret (ev_p (evp_call Fl (hr.mono (by decide)) ⟨_, rfl, rfl⟩ (eva_1 (evn_sd (evp_call Fm (hr.mono (by decide)) ⟨n, closed n rs, b, hb.n10, rfl, rfl⟩ (eva_cons (evp_ixT (evp_var 0) (evn_k 0) rfl) (eva_cons (evp_var 2) (eva_1 (evp_var 3))))) (evp_var 3)))) rfl))
theorem sc_least_bits : FnScope ["lots", "found", "bits", "other"] ["lots"] (defScope s_least_bits) := ⟨rfl, rfl, rfl, by decide +kernel, rfl, by decide +kernel, by decide +kernel⟩
def R_least_bits (ds : List PyData) (d : PyData) : Prop := ∃ ls : List Nat, ls.length ≤ 2000 ∧ ds = [intsD ls] ∧ d = intsD (lst ls)
theorem ok_least_bits (F : Fun K "least_bits" "least_bits" s_least_bits f fd) (T : Mg mg) (Fo : FnP P w K mg base 5 "ordered" ["many_bits"] (spP K R_ordered)) : FnOk P w K mg base CX0 6 f fd ["lots"] (spP K R_least_bits) := by
  refine fun_pure F sc_least_bits (fun ds d ⟨_, _, e, _⟩ => by rw [e]; rfl) (fun cdv A outer s H E hr ds d ⟨ls, hl, e1, e2⟩ => ?_)
  subst e1 e2
  have ho := Nat.le_trans (once_len ls) hl
  refine ex_cons (e1_setF 1 (evf_lst eva_nil) (by show 1 < 4; decide) ?_ sc_least_bits.nd)
  refine ex_cons (e1_forG 2 (ord (onceL ls)) nt (fun i => [some (.d (intsD ls)), some (.l ((((ord (onceL ls)).take i).foldl (fun found b => if (found.map fun o => decide (o &&& b = o)).any id = true then found else found ++ [b]) []).map nt)), none, none])
    (evi_list (evp_call Fo hr ⟨onceL ls, by omega, rfl, rfl⟩ (eva_1 (evf_p (evf_listdict rfl T.list T.dict (evf_p (evf_c1 sc_least_bits (lc1n 2 ls nt (fun b => .tuple [nt b, .bool true]) (evi_list (evp_var 0)) (by omega) (fun _ _ _ _ _ b _ => evp_tup (eva_cons (evp_var 2) (eva_1 evp_bool))))))))))) rfl (fun _ => rfl) (fun i b hx => ?_) ?_ PassesOwn.never rfl sc_least_bits.nd)
  · generalize hf : ((ord (onceL ls)).take i).foldl (fun found b => if (found.map fun o => decide (o &&& b = o)).any id = true then found else found ++ [b]) [] = found
    have hfl : found.length ≤ 2000 := by
      rw [← hf]
      refine Nat.le_trans (foldl_len (fun acc x => by split <;> simp) _ _) ?_
      rw [List.length_take, ord_len]
      show 0 + _ ≤ _
      omega
    refine ex_one (e1_if (evt_frz 1 rfl (evt_not (evt_val (evp_any (ns := found.map fun o => decide (o &&& b = o)) rfl T.any ?_)))) (fun hk => ?_) (fun hk => ?_))
    · rw [List.map_map]
      exact evf_p (evf_c1 sc_least_bits (lc1n 3 found nt (fun o => .bool (decide (o &&& b = o))) (evi_list (evp_var 1)) (by omega) (fun _ _ _ _ _ o _ => evn_eq (evn_and (evp_var 3) (evp_var 2)) (evp_var 3))))
    · refine ex_one (e1_app 1 (evp_var 2) rfl (by rw [List.length_map]; exact Nat.lt_of_le_of_lt hfl (by decide)) ?_)
      rw [foldl_snoc hx, hf, if_neg (by intro z; rw [z] at hk; cases hk), List.map_append]
      rfl
    · refine ex_nil ?_
      rw [foldl_snoc hx, hf, if_pos (by simpa using hk)]
      rfl
  · rw [List.take_length]
    exact ex_frz 1 rfl (ex_one (e1_ret (ev_p (evp_var 1) rfl)))
theorem sc_hit_bits : FnScope ["size", "lots", "needed", "found", "bits", "other", "own"] ["size", "lots"] (defScope s_hit_bits) := ⟨rfl, rfl, rfl, by decide +kernel, rfl, by decide +kernel, by decide +kernel⟩
def R_hit_bits (ds : List PyData) (d : PyData) : Prop := ∃ (n : Nat) (ls : List Nat), n ≤ 10 ∧ ls.length ≤ 2000 ∧ ds = [nt n, intsD ls] ∧ d = intsD (hit n ls)
theorem lst_len (ls : List Nat) : (lst ls).length ≤ ls.length := by
  unfold lst
  refine Nat.le_trans (foldl_len (fun acc x => by split <;> simp) _ _) ?_
  rw [ord_len]
  have := once_len ls
  show 0 + _ ≤ _
  omega
theorem ok_hit_bits (F : Fun K "hit_bits" "hit_bits" s_hit_bits f fd) (T : Mg mg) (Fo : FnP P w K mg base 5 "ordered" ["many_bits"] (spP K R_ordered)) (Fs : FnP P w K mg base 6 "least_bits" ["lots"] (spP K R_least_bits)) : FnOk P w K mg base CX0 7 f fd ["size", "lots"] (spP K R_hit_bits) := by
  refine fun_pure F sc_hit_bits (fun ds d ⟨_, _, _, _, e, _⟩ => by rw [e]; rfl) (fun cdv A outer s H E hr ds d ⟨n, ls, hn, hl, e1, e2⟩ => ?_)
  subst e1 e2
  have hp := pow10 hn
  have hll := lst_len ls
  refine ex_cons (e1_parF (i := 2) (j := 3) (evp_call Fs hr ⟨ls, hl, rfl, rfl⟩ (eva_1 (evp_var 1))) (evf_lst eva_nil) (by show 3 < 7; decide) ?_ (by decide) rfl sc_hit_bits.nd (by rfl))
  refine ex_cons (e1_forG 4 (ord (List.range (2 ^ n))) nt (fun i => [some (.d (nt n)), some (.d (intsD ls)), some (.d (intsD (lst ls))), some (.l ((((ord (List.range (2 ^ n))).take i).foldl (hitF (lst ls)) []).map nt)), none, none, none])
    (evi_list (evp_call Fo (hr.mono (by decide)) ⟨_, by rw [List.length_range]; omega, rfl, rfl⟩ (eva_1 (evf_p (evf_listRg rfl T.list T.range (evn_shl (evp_var 0) (by omega)) (by omega)))))) rfl (fun _ => rfl) (fun i b hx => ?_) ?_ PassesOwn.never rfl sc_hit_bits.nd)
  · generalize hf : ((ord (List.range (2 ^ n))).take i).foldl (hitF (lst ls)) [] = found
    have hfl : found.length ≤ 1024 := by
      rw [← hf]
      refine Nat.le_trans (foldl_len (hitF_len _) _ _) ?_
      rw [List.length_take, ord_len, List.length_range]
      show 0 + _ ≤ _
      omega
    refine ex_cons (e1_if (evt_frz 3 rfl (evt_val (evp_any (ns := found.map fun o => decide (o &&& b = o)) rfl T.any ?_))) (fun hk => ?_) (fun hk => ex_nil ?_))
    · rw [List.map_map]
      exact evf_p (evf_c1 sc_hit_bits (lc1n 5 found nt (fun o => .bool (decide (o &&& b = o))) (evi_list (evp_var 3)) (by omega) (fun _ _ _ _ _ o _ => evn_eq (evn_and (evp_var 5) (evp_var 4)) (evp_var 5))))
    · refine ex_one (e1_cont ?_)
      rw [foldl_snoc hx, hf]
      unfold hitF
      rw [if_pos hk]
      rfl
    · refine ex_one (e1_if (evt_val (evp_all (ns := (lst ls).map fun o => !decide (b &&& o = 0)) rfl T.all ?_)) (fun hk2 => ?_) (fun hk2 => ex_nil ?_))
      · rw [List.map_map]
        exact evf_p (evf_c1 sc_hit_bits (lc1n 6 (lst ls) nt (fun o => .bool (!decide (b &&& o = 0))) (evi_list (evp_var 2)) (by omega) (fun _ _ _ _ _ o _ => evn_ne (evn_and (evp_var 4) (evp_var 6)) (evn_k 0))))
      · refine ex_one (e1_app 3 (evp_var 4) rfl (by rw [List.length_map]; exact Nat.lt_of_le_of_lt hfl (by decide)) ?_)
        rw [foldl_snoc hx, hf]
        unfold hitF
        rw [if_neg (by rw [hk]; decide), if_pos hk2, List.map_append]
        rfl
      · rw [foldl_snoc hx, hf]
        unfold hitF
        rw [if_neg (by rw [hk]; decide), if_neg (by rw [hk2]; decide)]
        rfl
  · rw [List.take_length]
    exact ex_frz 3 rfl (ex_one (e1_ret (ev_p (evp_var 3) rfl)))
theorem sc_hits : FnScope ["size", "lots", "bits", "lot"] ["size", "lots"] (defScope s_hits) := ⟨rfl, rfl, rfl, by decide +kernel, rfl, by decide +kernel, by decide +kernel⟩
def R_hits (ds : List PyData) (d : PyData) : Prop := ∃ (n : Nat) (ls : List Nat), n ≤ 10 ∧ ls.length ≤ 2000 ∧ (∀ b ∈ ls, b < 2 ^ 10) ∧ ds = [nt n, lotsD ls] ∧ d = lotsD (hit n ls)
theorem hit_len {n : Nat} (hn : n ≤ 10) (ls : List Nat) : (hit n ls).length ≤ 1024 := by
  refine Nat.le_trans (foldl_len (hitF_len _) _ _) ?_
  rw [ord_len, List.length_range]
  have := pow10 hn
  show 0 + _ ≤ _
  omega
theorem ok_hits (F : Fun K "hits" "hits" s_hits f fd) (T : Mg mg) (Fh : FnP P w K mg base 7 "hit_bits" ["size", "lots"] (spP K R_hit_bits)) (Fb : FnP P w K mg base 1 "bits_of" ["lot"] (spP K R_bits_of)) (Fl : FnP P w K mg base 1 "lot_of" ["bits"] (spP K R_lot_of)) : FnOk P w K mg base CX0 8 f fd ["size", "lots"] (spP K R_hits) := by
  refine fun_pure F sc_hits (fun ds d ⟨_, _, _, _, _, e, _⟩ => by rw [e]; rfl) (fun cdv A outer s H E hr ds d ⟨n, ls, hn, hl, hb, e1, e2⟩ => ?_)
  subst e1 e2
  exact ex_one (e1_ret (ev_p (evp_tupL T.tuple (evf_p (evf_c1 sc_hits (lc1n 2 (hit n ls) nt lotM (evi_list (evp_call Fh hr ⟨n, ls, hn, hl, rfl, rfl⟩ (eva_cons (evp_var 0) (eva_1 (evf_p (evf_c1 sc_hits (lc1n 3 ls lotM nt (evi_tup (evp_var 1)) (by omega) (fun _ _ _ _ _ b hm => evp_call Fb (hr.mono (by decide)) (lo_bits (hb b hm)) (eva_1 (evp_var 3)))))))))) (Nat.le_trans (hit_len hn ls) (by decide))
    (fun _ _ _ _ _ b hm => evp_call Fl (hr.mono (by decide)) ⟨b, rfl, rfl⟩ (eva_1 (evp_var 2))))))) rfl))
theorem sc_rules_for : FnScope ["book", "thing", "rest", "lots", "bits"] ["book", "thing"] (defScope s_rules_for) := ⟨rfl, rfl, rfl, by decide +kernel, rfl, by decide +kernel, by decide +kernel⟩
def R_rules_for (ds : List PyData) (d : PyData) : Prop := ∃ n rs t, Bk n rs ∧ t < n ∧ ds = [bookD n rs, nt t] ∧ d = .tuple ((hit n (rests n rs t)).map fun b => .tuple [lotM b, .tuple [nt t]])
theorem ok_rules_for (F : Fun K "rules_for" "rules_for" s_rules_for f fd) (T : Mg mg) (Fw : FnP P w K mg base 1 "whole_bits" ["size"] (spP K R_whole_bits)) (Fh : FnP P w K mg base 7 "hit_bits" ["size", "lots"] (spP K R_hit_bits)) (Fo : FnP P w K mg base 7 "without_bits" ["book", "thing"] (spP K R_without_bits)) (Fl : FnP P w K mg base 1 "lot_of" ["bits"] (spP K R_lot_of)) : FnOk P w K mg base CX0 8 f fd ["book", "thing"] (spP K R_rules_for) := by
  refine fun_pure F sc_rules_for (fun ds d ⟨_, _, _, _, _, e, _⟩ => by rw [e]; rfl) (fun cdv A outer s H E hr ds d ⟨n, rs, t, hb, ht, e1, e2⟩ => ?_)
  subst e1 e2
  have hn := hb.n10
  refine ex_cons (e1_set 2 (ev_p (evn_sd (evp_call Fw (hr.mono (by decide)) ⟨n, by omega, rfl, rfl⟩ (eva_1 (evp_ixT (evp_var 0) (evn_k 0) rfl))) (evn_shl (evp_var 1) (by omega))) ?_) sc_rules_for.nd)
  refine ex_cons (e1_set 3 (ev_p (evp_call Fh hr ⟨n, rests n rs t, hn, by rw [rests, List.length_map]; exact Nat.le_trans (tops_len hb t) (by decide), rfl, rfl⟩ (eva_cons (evp_ixT (evp_var 0) (evn_k 0) rfl) (eva_1 (by
    unfold rests
    rw [intsD, List.map_map]
    exact evf_p (evf_c1 sc_rules_for (lc1n 4 (tops n rs t) nt (fun b => nt (sd (sd (2 ^ n - 1) (2 ^ t)) b)) (evi_list (evp_call Fo hr ⟨n, rs, t, hb, rfl, rfl⟩ (eva_cons (evp_var 0) (eva_1 (evp_var 1))))) (Nat.le_trans (tops_len hb t) (by decide)) (fun _ _ _ _ _ b _ => evn_sd (evp_var 2) (evp_var 4)))))))) ?_) sc_rules_for.nd)
  exact ex_one (e1_ret (ev_p (evp_tupL T.tuple (evf_p (evf_c1 sc_rules_for (lc1n 4 (hit n (rests n rs t)) nt (fun b => .tuple [lotM b, .tuple [nt t]]) (evi_list (evp_var 3)) (Nat.le_trans (hit_len hn _) (by decide))
    (fun _ _ _ _ _ b _ => evp_tup (eva_cons (evp_call Fl (hr.mono (by decide)) ⟨b, rfl, rfl⟩ (eva_1 (evp_var 4))) (eva_1 (evp_tup (eva_1 (evp_var 1)))))))))) rfl))
end
end Mt

set_option maxHeartbeats 1000000
namespace Mt
open PySem PySem.Spec PyProof.Rows L2
def lw (b : Nat) : List Nat := (lotOf b).foldl (fun many t => many ++ many.map fun o => o ||| 2 ^ t) [0]
def spare (cs : List Nat) (b : Nat) : Option Nat := (lotOf b).find? fun t => (cs.getD (sd b (2 ^ t)) 0).testBit t
def blwF (b : Nat) (found : List Nat) (o : Nat) : List Nat := if (decide (o &&& b = o) && (!decide (o = b) && (found.map fun g => !decide (o &&& g = o)).all id)) = true then found ++ [o] else found
def blw (cs : List Nat) (b : Nat) : List Nat := ord (cs.reverse.foldl (blwF b) [])
def mkb (cs : List Nat) (b : Nat) : List Nat := ord (((lw (cs.getD b 0)).filter fun o => decide (cs.getD o 0 = cs.getD b 0)).filter fun o => isN (optD ((spare cs o).map nt)))
theorem things_eq {b : Nat} (h : b < 2 ^ 10) : (List.range (Builtin.Int.intBits (b : Int))).filter (fun t => b.testBit t) = lotOf b := by
  have h1 : Builtin.Int.intBits (b : Int) ≤ 10 := PyProof.Rows.intBits_le (by simpa using h)
  have h2 : b < 2 ^ Builtin.Int.intBits (b : Int) := by simpa using PyProof.Rows.natAbs_lt_pow_bits (b : Int)
  unfold lotOf
  have e : List.range 10 = List.range (Builtin.Int.intBits (b : Int)) ++ (List.range (10 - Builtin.Int.intBits (b : Int))).map (fun x => Builtin.Int.intBits (b : Int) + x) := by
    rw [← List.range_add]
    congr 1
    omega
  rw [e, List.filter_append]
  have e2 : ((List.range (10 - Builtin.Int.intBits (b : Int))).map (fun x => Builtin.Int.intBits (b : Int) + x)).filter (fun t => b.testBit t) = [] := by
    rw [List.filter_eq_nil_iff]
    intro t ht
    obtain ⟨x, _, rfl⟩ := List.mem_map.mp ht
    rw [Nat.testBit_lt_two_pow (Nat.lt_of_lt_of_le h2 (Nat.pow_le_pow_right (by decide) (by omega)))]
    decide
  rw [e2, List.append_nil]
theorem lw_len (i : Nat) (l : List Nat) : ((l.take i).foldl (fun many t => many ++ many.map fun o => o ||| 2 ^ t) [0]).length ≤ 2 ^ i := by
  induction i with
  | zero => simp
  | succ i ih =>
    by_cases h : i < l.length
    · rw [foldl_snoc (List.getElem?_eq_getElem h), List.length_append, List.length_map, Nat.pow_succ]
      omega
    · rw [List.take_of_length_le (by omega)]
      rw [List.take_of_length_le (by omega)] at ih
      exact Nat.le_trans ih (Nat.pow_le_pow_right (by decide) (by omega))
theorem lotOf_len (b : Nat) : (lotOf b).length ≤ 10 := by
  unfold lotOf
  exact Nat.le_trans (List.length_filter_le ..) (by rw [List.length_range]; exact Nat.le_refl _)
theorem lw_len' (b : Nat) : (lw b).length ≤ 1024 := by
  have h := lw_len (lotOf b).length (lotOf b)
  rw [List.take_length] at h
  exact Nat.le_trans h (Nat.pow_le_pow_right (by decide) (lotOf_len b))
theorem lw_sub {b : Nat} : ∀ o ∈ lw b, ∀ i, o.testBit i = true → b.testBit i = true := by
  have : ∀ (l acc : List Nat), (∀ t ∈ l, b.testBit t = true) → (∀ o ∈ acc, ∀ i, o.testBit i = true → b.testBit i = true) → ∀ o ∈ l.foldl (fun many t => many ++ many.map fun o => o ||| 2 ^ t) acc, ∀ i, o.testBit i = true → b.testBit i = true := by
    intro l
    induction l with
    | nil => intro acc _ h; exact h
    | cons t l ih =>
      intro acc hl h
      rw [List.foldl_cons]
      refine ih _ (fun t ht => hl t (List.mem_cons_of_mem _ ht)) fun o ho => ?_
      rcases List.mem_append.mp ho with ho | ho
      · exact h o ho
      · obtain ⟨o', h1, rfl⟩ := List.mem_map.mp ho
        intro i hi
        rw [Nat.testBit_or, Nat.testBit_two_pow] at hi
        rcases Bool.or_eq_true_iff.mp hi with hi | hi
        · exact h o' h1 i hi
        · rw [← of_decide_eq_true hi]
          exact hl t List.mem_cons_self
  exact this (lotOf b) [0] (fun t ht => (mem_lotOf.mp ht).2) (fun o ho i hi => by
    rw [show o = 0 by simpa using ho] at hi
    simp at hi)
theorem le_of_sub {a b : Nat} (h : ∀ i, a.testBit i = true → b.testBit i = true) : a ≤ b := by
  have e : b &&& a = a := by
    apply Nat.eq_of_testBit_eq
    intro i
    rw [Nat.testBit_and]
    cases q : a.testBit i
    · simp
    · rw [h i q]
      rfl
  have := and_le_left b a
  rw [e] at this
  exact this
theorem lw_le {b o : Nat} (h : o ∈ lw b) : o ≤ b := le_of_sub (lw_sub o h)
theorem lotOf_whole {n : Nat} (h : n ≤ 10) : lotOf (2 ^ n - 1) = List.range n := by
  have : ∀ n : Fin 11, lotOf (2 ^ n.val - 1) = List.range n.val := by decide
  exact this ⟨n, by omega⟩
theorem whole_bit (n i : Nat) : (2 ^ n - 1).testBit i = decide (i < n) := Nat.testBit_two_pow_sub_one n i
theorem whole_sup {n b : Nat} (h : b < 2 ^ n) : (2 ^ n - 1) &&& b = b := by
  apply Nat.eq_of_testBit_eq
  intro i
  rw [Nat.testBit_and, whole_bit]
  by_cases hi : i < n
  · simp [hi]
  · rw [Nat.testBit_lt_two_pow (Nat.lt_of_lt_of_le h (Nat.pow_le_pow_right (by decide) (by omega)))]
    simp
theorem whole_lt (n : Nat) : 2 ^ n - 1 < 2 ^ n := Nat.sub_lt (Nat.two_pow_pos n) (by decide)
theorem kept_whole {n : Nat} {rs : List Ru} (h : Bk n rs) : kept rs (2 ^ n - 1) = true := by
  unfold kept
  rw [List.all_eq_true]
  intro r hr
  rw [whole_sup (h.lt r hr).1, whole_sup (h.lt r hr).2]
  simp
theorem whole_closed {n : Nat} {rs : List Ru} (h : Bk n rs) : 2 ^ n - 1 ∈ closed n rs := mem_closed.mpr ⟨whole_lt n, kept_whole h⟩
theorem find_whole {n : Nat} {rs : List Ru} (h : Bk n rs) : (closed n rs).find? (fun o => o &&& (2 ^ n - 1) = 2 ^ n - 1) = some (2 ^ n - 1) := by
  cases e : (closed n rs).find? (fun o => o &&& (2 ^ n - 1) = 2 ^ n - 1) with
  | none =>
    have := List.find?_eq_none.mp e _ (whole_closed h)
    rw [Nat.and_self] at this
    simp at this
  | some c =>
    have h1 := List.find?_some e
    have h2 := (mem_closed.mp (List.mem_of_find?_eq_some e)).1
    have h3 : (2 ^ n - 1) &&& c = c := whole_sup h2
    have h4 : c &&& (2 ^ n - 1) = 2 ^ n - 1 := of_decide_eq_true h1
    rw [Nat.and_comm] at h3
    rw [h3] at h4
    rw [h4]
section
variable {P : Program} {w : World} {K : PySem.W.Frag} {mg : Str → Option Value} {base : Heap} {f : Addr} {fd : FuncData}
theorem sc_things_in : FnScope ["bits", "thing"] ["bits"] (defScope s_things_in) := ⟨rfl, rfl, rfl, by decide +kernel, rfl, by decide +kernel, by decide +kernel⟩
def R_things_in (ds : List PyData) (d : PyData) : Prop := ∃ b : Nat, b < 2 ^ 10 ∧ ds = [nt b] ∧ d = intsD (lotOf b)
theorem ok_things_in (F : Fun K "things_in" "things_in" s_things_in f fd) (T : Mg mg) : FnOk P w K mg base CX0 1 f fd ["bits"] (spP K R_things_in) := by
  refine fun_pure F sc_things_in (fun ds d ⟨_, _, e, _⟩ => by rw [e]; rfl) (fun cdv A outer s H E hr ds d ⟨b, hb, e1, e2⟩ => ?_)
  subst e1 e2
  have h1 : Builtin.Int.intBits (b : Int) ≤ 10 := PyProof.Rows.intBits_le (by simpa using hb)
  rw [← things_eq hb]
  exact ex_one (e1_ret (ev_p (evf_p (evf_c1 sc_things_in (lc1 1 (List.range (Builtin.Int.intBits (b : Int))) nt (fun t => b.testBit t) nt (evi_rngN T.range (evp_bitlen (evp_var 0)) (by omega)) (by rw [List.length_range]; omega)
    (fun _ _ _ _ _ t _ => evc_one (etn_bitT (evp_var 0) (evp_var 1))) (fun _ _ _ _ _ t _ _ => evp_var 1)))) rfl))
theorem sc_lots_within : FnScope ["bits", "many", "thing", "own"] ["bits"] (defScope s_lots_within) := ⟨rfl, rfl, rfl, by decide +kernel, rfl, by decide +kernel, by decide +kernel⟩
def R_lots_within (ds : List PyData) (d : PyData) : Prop := ∃ b : Nat, b < 2 ^ 10 ∧ ds = [nt b] ∧ d = intsD (lw b)
theorem ok_lots_within (F : Fun K "lots_within" "lots_within" s_lots_within f fd) (Ft : FnP P w K mg base 1 "things_in" ["bits"] (spP K R_things_in)) : FnOk P w K mg base CX0 2 f fd ["bits"] (spP K R_lots_within) := by
  refine fun_pure F sc_lots_within (fun ds d ⟨_, _, e, _⟩ => by rw [e]; rfl) (fun cdv A outer s H E hr ds d ⟨b, hb, e1, e2⟩ => ?_)
  subst e1 e2
  refine ex_cons (e1_setF 1 (ds := [nt 0]) (evf_lst (eva_1 (evn_k 0))) (by show 1 < 4; decide) ?_ sc_lots_within.nd)
  refine ex_cons (e1_forG 2 (lotOf b) nt (fun i => [some (.d (nt b)), some (.l ((((lotOf b).take i).foldl (fun many t => many ++ many.map fun o => o ||| 2 ^ t) [0]).map nt)), none, none]) (evi_list (evp_call Ft hr ⟨b, hb, rfl, rfl⟩ (eva_1 (evp_var 0)))) rfl (fun _ => rfl) (fun i t hx => ?_) ?_ PassesOwn.never rfl sc_lots_within.nd)
  · have hil := (List.getElem?_eq_some_iff.mp hx).1
    have ht10 := (mem_lotOf.mp (List.mem_of_getElem? hx)).1
    have hl10 := lotOf_len b
    generalize hf : ((lotOf b).take i).foldl (fun many t => many ++ many.map fun o => o ||| 2 ^ t) [0] = many
    have hfl : many.length ≤ 1024 := by
      rw [← hf]
      exact Nat.le_trans (lw_len i _) (Nat.pow_le_pow_right (show 0 < 2 by decide) (show i ≤ 10 by omega))
    refine ex_one (e1_ext 1 (ds := (many.map fun o => o ||| 2 ^ t).map nt) (evf_frz 1 rfl (fun d hd => by
      obtain ⟨o, _, rfl⟩ := List.mem_map.mp hd
      rfl) ?_) rfl (Nat.le_trans (by rw [List.length_map, List.length_map, List.length_map]; exact Nat.add_le_add hfl hfl) (by decide)) ?_)
    · rw [List.map_map]
      exact evf_c1 sc_lots_within (lc1n 3 many nt (fun o => nt (o ||| 2 ^ t)) (evi_list (evp_var 1)) (by omega) (fun _ _ _ _ _ o _ => evn_or (evp_var 3) (evn_shl (evp_var 2) (by omega))))
    · rw [foldl_snoc hx, hf, List.map_append]
      rfl
  · rw [List.take_length]
    exact ex_frz 1 rfl (ex_one (e1_ret (ev_p (evp_var 1) rfl)))
theorem sc_closures_of : FnScope ["book", "rules", "own"] ["book"] (defScope s_closures_of) := ⟨rfl, rfl, rfl, by decide +kernel, rfl, by decide +kernel, by decide +kernel⟩
def R_closures_of (ds : List PyData) (d : PyData) : Prop := ∃ n rs, Bk n rs ∧ ds = [bookD n rs] ∧ d = intsD (cls n rs)
theorem ok_closures_of (F : Fun K "closures_of" "closures_of" s_closures_of f fd) (T : Mg mg) (Fr : FnP P w K mg base 2 "rule_bits" ["book"] (spP K R_rule_bits)) (Fc : FnP P w K mg base 2 "bits_closure" ["rules", "bits"] (spP K R_bits_closure)) : FnOk P w K mg base CX0 3 f fd ["book"] (spP K R_closures_of) := by
  refine fun_pure F sc_closures_of (fun ds d ⟨_, _, _, e, _⟩ => by rw [e]; rfl) (fun cdv A outer s H E hr ds d ⟨n, rs, hb, e1, e2⟩ => ?_)
  subst e1 e2
  have hp := pow10 hb.n10
  have hn := hb.n10
  refine ex_cons (e1_set 1 (ev_p (evp_call Fr (hr.mono (by decide)) ⟨n, rs, hb, rfl, rfl⟩ (eva_1 (evp_var 0))) ?_) sc_closures_of.nd)
  rw [cls, intsD, List.map_map]
  exact ex_one (e1_ret (ev_p (evf_p (evf_c1 sc_closures_of (lc1n 2 (List.range (2 ^ n)) nt (fun b => nt (clo rs b)) (evi_rngN T.range (evn_shl (evp_ixT (evp_var 0) (evn_k 0) rfl) (by omega)) (by omega)) (by rw [List.length_range]; omega)
    (fun _ _ _ _ _ b hm => evp_call Fc (hr.mono (by decide)) ⟨rs, b, hb.r10, lt10 hn (List.mem_range.mp hm), rfl, rfl⟩ (eva_cons (evp_var 1) (eva_1 (evp_var 2))))))) rfl))
theorem sc_spare_by : FnScope ["closures", "bits", "thing"] ["closures", "bits"] (defScope s_spare_by) := ⟨rfl, rfl, rfl, by decide +kernel, rfl, by decide +kernel, by decide +kernel⟩
def R_spare_by (ds : List PyData) (d : PyData) : Prop := ∃ (cs : List Nat) (b : Nat), b < 2 ^ 10 ∧ b < cs.length ∧ ds = [intsD cs, nt b] ∧ d = optD ((spare cs b).map nt)
theorem ok_spare_by (F : Fun K "spare_by" "spare_by" s_spare_by f fd) (Ft : FnP P w K mg base 1 "things_in" ["bits"] (spP K R_things_in)) : FnOk P w K mg base CX0 2 f fd ["closures", "bits"] (spP K R_spare_by) := by
  refine fun_pure F sc_spare_by (fun ds d ⟨_, _, _, _, e, _⟩ => by rw [e]; rfl) (fun cdv A outer s H E hr ds d ⟨cs, b, hb, hl, e1, e2⟩ => ?_)
  subst e1 e2
  refine ex_cons (e1_drop 2 (e1_for 2 (lotOf b) nt (fun i Γ => Γ = [some (.d (intsD cs)), some (.d (nt b)), none] ∧ ∀ t ∈ (lotOf b).take i, (cs.getD (sd b (2 ^ t)) 0).testBit t = false) (evi_list (evp_call Ft hr ⟨b, hb, rfl, rfl⟩ (eva_1 (evp_var 1)))) ⟨rfl, by simp⟩
    (fun Γ i h => by rw [h.1]; rfl) (fun i t Γ hx ⟨h1, h2⟩ => ?_) (fun Γ ⟨h1, h2⟩ => ?_) PassesOwn.never rfl sc_spare_by.nd))
  · subst h1
    have ht10 := (mem_lotOf.mp (List.mem_of_getElem? hx)).1
    refine ex_one (e1_if (etn_bitT (evp_ixL (evp_var 0) (evn_sd (evp_var 1) (evn_shl (evp_var 2) (by omega))) (at_nt (Nat.lt_of_le_of_lt (sd_le _ _) hl))) (evp_var 2)) (fun hk => ?_) (fun hk => ?_))
    · refine ex_one (e1_ret (ev_p (evp_var 2) ?_))
      show nt t = _
      rw [spare, find_take hx h2 hk]
      rfl
    · refine ex_dropN 2 (ex_nil ⟨rfl, fun y hy => ?_⟩)
      rw [take_snoc hx] at hy
      rcases List.mem_append.mp hy with hy | hy
      · exact h2 y hy
      · rw [show y = t by simpa using hy]
        exact hk
  · subst h1
    rw [List.take_length] at h2
    refine ex_one (e1_ret (ev_p evp_none ?_))
    show PyData.none = _
    rw [spare, List.find?_eq_none.mpr (fun y hy => by rw [h2 y hy]; simp)]
    rfl
theorem sc_below_closed : FnScope ["closed", "bits", "found", "own", "greater"] ["closed", "bits"] (defScope s_below_closed) := ⟨rfl, rfl, rfl, by decide +kernel, rfl, by decide +kernel, by decide +kernel⟩
def R_below_closed (ds : List PyData) (d : PyData) : Prop := ∃ (cs : List Nat) (b : Nat), cs.length ≤ 2000 ∧ ds = [intsD cs, nt b] ∧ d = intsD (blw cs b)
theorem blwF_len (b : Nat) (found : List Nat) (o : Nat) : (blwF b found o).length ≤ found.length + 1 := by
  unfold blwF
  split <;> simp
theorem ok_below_closed (F : Fun K "below_closed" "below_closed" s_below_closed f fd) (T : Mg mg) (Fo : FnP P w K mg base 5 "ordered" ["many_bits"] (spP K R_ordered)) : FnOk P w K mg base CX0 6 f fd ["closed", "bits"] (spP K R_below_closed) := by
  refine fun_pure F sc_below_closed (fun ds d ⟨_, _, _, e, _⟩ => by rw [e]; rfl) (fun cdv A outer s H E hr ds d ⟨cs, b, hl, e1, e2⟩ => ?_)
  subst e1 e2
  refine ex_cons (e1_setF 2 (evf_lst eva_nil) (by show 2 < 5; decide) ?_ sc_below_closed.nd)
  have hrev : (cs.map nt).reverse = cs.reverse.map nt := List.map_reverse.symm
  refine ex_cons (e1_forG 3 cs.reverse nt (fun i => [some (.d (intsD cs)), some (.d (nt b)), some (.l (((cs.reverse.take i).foldl (blwF b) []).map nt)), none, none]) (evi_list (by rw [← hrev]; exact evf_p (evf_rev (evp_var 0)))) rfl (fun _ => rfl) (fun i o hx => ?_) ?_ PassesOwn.never rfl sc_below_closed.nd)
  · generalize hf : (cs.reverse.take i).foldl (blwF b) [] = found
    have hfl : found.length ≤ 2000 := by
      rw [← hf]
      refine Nat.le_trans (foldl_len (blwF_len b) _ _) ?_
      rw [List.length_take, List.length_reverse]
      show 0 + _ ≤ _
      omega
    refine ex_one (e1_if (evt_frz 2 rfl (evw_t (evw_and (etn_eq (evn_and (evp_var 3) (evp_var 1)) (evp_var 3)) fun _ => evw_and (etn_ne (evp_var 3) (evp_var 1)) fun _ => evw_and1 (evt_val (evp_all (ns := found.map fun g => !decide (o &&& g = o)) rfl T.all ?_))))) (fun hk => ?_) (fun hk => ex_nil ?_))
    · rw [List.map_map]
      exact evf_p (evf_c1 sc_below_closed (lc1n 4 found nt (fun g => .bool (!decide (o &&& g = o))) (evi_list (evp_var 2)) (by omega) (fun _ _ _ _ _ g _ => evn_ne (evn_and (evp_var 3) (evp_var 4)) (evp_var 3))))
    · refine ex_one (e1_app 2 (evp_var 3) rfl (by rw [List.length_map]; exact Nat.lt_of_le_of_lt hfl (by decide)) ?_)
      rw [foldl_snoc hx, hf]
      unfold blwF
      rw [if_pos hk, List.map_append]
      rfl
    · rw [foldl_snoc hx, hf]
      unfold blwF
      rw [if_neg (by rw [hk]; decide)]
      rfl
  · rw [List.take_length]
    have hfl : (cs.reverse.foldl (blwF b) []).length ≤ 2000 := by
      refine Nat.le_trans (foldl_len (blwF_len b) _ _) ?_
      rw [List.length_reverse]
      show 0 + _ ≤ _
      omega
    exact ex_frz 2 rfl (ex_one (e1_ret (ev_p (evp_call Fo hr ⟨_, by omega, rfl, rfl⟩ (eva_1 (evp_var 2))) rfl)))
theorem sc_makers_by : FnScope ["closures", "bits", "whole", "some", "own"] ["closures", "bits"] (defScope s_makers_by) := ⟨rfl, rfl, rfl, by decide +kernel, rfl, by decide +kernel, by decide +kernel⟩
def R_makers_by (ds : List PyData) (d : PyData) : Prop := ∃ (cs : List Nat) (b : Nat), b < cs.length ∧ cs.length ≤ 1024 ∧ (∀ c ∈ cs, c < cs.length) ∧ ds = [intsD cs, nt b] ∧ d = intsD (mkb cs b)
theorem getD_lt {cs : List Nat} {b m : Nat} (h : ∀ c ∈ cs, c < m) (hb : b < cs.length) : cs.getD b 0 < m := by
  rw [List.getD_eq_getElem?_getD, List.getElem?_eq_getElem hb]
  exact h _ (List.getElem_mem hb)
theorem ok_makers_by (F : Fun K "makers_by" "makers_by" s_makers_by f fd) (Fl : FnP P w K mg base 2 "lots_within" ["bits"] (spP K R_lots_within)) (Fs : FnP P w K mg base 2 "spare_by" ["closures", "bits"] (spP K R_spare_by)) (Fo : FnP P w K mg base 5 "ordered" ["many_bits"] (spP K R_ordered)) : FnOk P w K mg base CX0 6 f fd ["closures", "bits"] (spP K R_makers_by) := by
  refine fun_pure F sc_makers_by (fun ds d ⟨_, _, _, _, _, e, _⟩ => by rw [e]; rfl) (fun cdv A outer s H E hr ds d ⟨cs, b, hl, h10, hc, e1, e2⟩ => ?_)
  subst e1 e2
  have hw : cs.getD b 0 < cs.length := getD_lt hc hl
  have lt : ∀ o ∈ lw (cs.getD b 0), o < cs.length := fun o ho => Nat.lt_of_le_of_lt (lw_le ho) hw
  have h1024 : (2 : Nat) ^ 10 = 1024 := by decide
  refine ex_cons (e1_set 2 (ev_p (evp_ixL (evp_var 0) (evp_var 1) (at_nt hl)) ?_) sc_makers_by.nd)
  refine ex_cons (e1_setC1 sc_makers_by 3 (lc1 4 (lw (cs.getD b 0)) nt (fun o => decide (cs.getD o 0 = cs.getD b 0)) nt (evi_list (evp_call Fl (hr.mono (by decide)) ⟨_, by omega, rfl, rfl⟩ (eva_1 (evp_var 2)))) (Nat.le_trans (lw_len' _) (by decide))
    (fun _ _ _ _ _ o hm => evc_one (etn_eq (evp_ixL (evp_var 0) (evp_var 4) (at_nt (lt o hm))) (evp_var 2))) (fun _ _ _ _ _ o _ _ => evp_var 4)) ?_)
  have hll : ((lw (cs.getD b 0)).filter fun o => decide (cs.getD o 0 = cs.getD b 0)).length ≤ 1024 := Nat.le_trans (List.length_filter_le ..) (lw_len' _)
  exact ex_one (e1_ret (ev_p (evp_call Fo hr ⟨_, Nat.le_trans (List.length_filter_le ..) (by omega), rfl, rfl⟩ (eva_1 (evf_p (evf_c1 sc_makers_by (lc1 4 ((lw (cs.getD b 0)).filter fun o => decide (cs.getD o 0 = cs.getD b 0)) nt (fun o => isN (optD ((spare cs o).map nt))) nt (evi_list (evp_var 3)) (by omega)
    (fun _ _ _ _ _ o hm => evc_one (evt_isN (evp_call Fs (hr.mono (by decide)) ⟨cs, o, by have := lt o (List.mem_filter.mp hm).1; omega, lt o (List.mem_filter.mp hm).1, rfl, rfl⟩ (eva_cons (evp_var 0) (eva_1 (evp_var 4)))))) (fun _ _ _ _ _ o _ _ => evp_var 4)))))) rfl))
theorem sc_makers_with : FnScope ["book", "lot"] ["book", "lot"] (defScope s_makers_with) := ⟨rfl, rfl, rfl, by decide +kernel, rfl, by decide +kernel, by decide +kernel⟩
def R_makers_with (ds : List PyData) (d : PyData) : Prop := ∃ n rs b, Bk n rs ∧ b < 2 ^ n ∧ ds = [bookD n rs, lotM b] ∧ d = intsD (mkb (cls n rs) b)
theorem cls_lt {n : Nat} {rs : List Ru} (h : Bk n rs) : ∀ c ∈ cls n rs, c < (cls n rs).length := fun c hc => by
  rw [cls_len]
  obtain ⟨b, hb, rfl⟩ := List.mem_map.mp hc
  exact clo_lt h.lt (List.mem_range.mp hb)
theorem ok_makers_with (F : Fun K "makers_with" "makers_with" s_makers_with f fd) (Fm : FnP P w K mg base 6 "makers_by" ["closures", "bits"] (spP K R_makers_by)) (Fc : FnP P w K mg base 3 "closures_of" ["book"] (spP K R_closures_of)) (Fb : FnP P w K mg base 1 "bits_of" ["lot"] (spP K R_bits_of)) : FnOk P w K mg base CX0 7 f fd ["book", "lot"] (spP K R_makers_with) := by
  refine fun_pure F sc_makers_with (fun ds d ⟨_, _, _, _, _, e, _⟩ => by rw [e]; rfl) (fun cdv A outer s H E hr ds d ⟨n, rs, b, hb, hl, e1, e2⟩ => ?_)
  subst e1 e2
  exact ex_one (e1_ret (ev_p (evp_call Fm hr ⟨cls n rs, b, by rw [cls_len]; exact hl, by rw [cls_len]; exact pow10 hb.n10, cls_lt hb, rfl, rfl⟩ (eva_cons (evp_call Fc (hr.mono (by decide)) ⟨n, rs, hb, rfl, rfl⟩ (eva_1 (evp_var 0))) (eva_1 (evp_call Fb (hr.mono (by decide)) (lo_bits (lt10 hb.n10 hl)) (eva_1 (evp_var 1)))))) rfl))
theorem sc_all_things : FnScope ["book"] ["book"] (defScope s_all_things) := ⟨rfl, rfl, rfl, by decide +kernel, rfl, by decide +kernel, by decide +kernel⟩
def R_all_things (ds : List PyData) (d : PyData) : Prop := ∃ n rs, Bk n rs ∧ ds = [bookD n rs] ∧ d = lotM (2 ^ n - 1)
theorem ok_all_things (F : Fun K "all_things" "all_things" s_all_things f fd) (T : Mg mg) : FnOk P w K mg base CX0 1 f fd ["book"] (spP K R_all_things) := by
  refine fun_pure F sc_all_things (fun ds d ⟨_, _, _, e, _⟩ => by rw [e]; rfl) (fun cdv A outer s H E hr ds d ⟨n, rs, hb, e1, e2⟩ => ?_)
  subst e1 e2
  have hn := hb.n10
  rw [lotM, lotOf_whole hn]
  exact ex_one (e1_ret (ev_p (evp_tupRg rfl T.tuple T.range (evp_ixT (evp_var 0) (evn_k 0) rfl) (by omega)) rfl))
theorem sc_makers : FnScope ["book", "lot", "own"] ["book", "lot"] (defScope s_makers) := ⟨rfl, rfl, rfl, by decide +kernel, rfl, by decide +kernel, by decide +kernel⟩
def R_makers (ds : List PyData) (d : PyData) : Prop := ∃ n rs b, Bk n rs ∧ b < 2 ^ n ∧ ds = [bookD n rs, lotM b] ∧ d = lotsD (mkb (cls n rs) b)
theorem mkb_len (cs : List Nat) (b : Nat) : (mkb cs b).length ≤ 1024 := by
  unfold mkb
  rw [ord_len]
  exact Nat.le_trans (List.length_filter_le ..) (Nat.le_trans (List.length_filter_le ..) (lw_len' _))
theorem ok_makers (F : Fun K "makers" "makers" s_makers f fd) (T : Mg mg) (Fm : FnP P w K mg base 7 "makers_with" ["book", "lot"] (spP K R_makers_with)) (Fl : FnP P w K mg base 1 "lot_of" ["bits"] (spP K R_lot_of)) : FnOk P w K mg base CX0 8 f fd ["book", "lot"] (spP K R_makers) := by
  refine fun_pure F sc_makers (fun ds d ⟨_, _, _, _, _, e, _⟩ => by rw [e]; rfl) (fun cdv A outer s H E hr ds d ⟨n, rs, b, hb, hl, e1, e2⟩ => ?_)
  subst e1 e2
  exact ex_one (e1_ret (ev_p (evp_tupL T.tuple (evf_p (evf_c1 sc_makers (lc1n 2 (mkb (cls n rs) b) nt lotM (evi_list (evp_call Fm hr ⟨n, rs, b, hb, hl, rfl, rfl⟩ (eva_cons (evp_var 0) (eva_1 (evp_var 1))))) (Nat.le_trans (mkb_len _ _) (by decide))
    (fun _ _ _ _ _ o _ => evp_call Fl (hr.mono (by decide)) ⟨o, rfl, rfl⟩ (eva_1 (evp_var 2))))))) rfl))
theorem sc_keys : FnScope ["book"] ["book"] (defScope s_keys) := ⟨rfl, rfl, rfl, by decide +kernel, rfl, by decide +kernel, by decide +kernel⟩
def R_keys (ds : List PyData) (d : PyData) : Prop := ∃ n rs, Bk n rs ∧ ds = [bookD n rs] ∧ d = lotsD (mkb (cls n rs) (2 ^ n - 1))
theorem ok_keys (F : Fun K "keys" "keys" s_keys f fd) (Fm : FnP P w K mg base 8 "makers" ["book", "lot"] (spP K R_makers)) (Fa : FnP P w K mg base 1 "all_things" ["book"] (spP K R_all_things)) : FnOk P w K mg base CX0 9 f fd ["book"] (spP K R_keys) := by
  refine fun_pure F sc_keys (fun ds d ⟨_, _, _, e, _⟩ => by rw [e]; rfl) (fun cdv A outer s H E hr ds d ⟨n, rs, hb, e1, e2⟩ => ?_)
  subst e1 e2
  exact ex_one (e1_ret (ev_p (evp_call Fm hr ⟨n, rs, _, hb, whole_lt n, rfl, rfl⟩ (eva_cons (evp_var 0) (eva_1 (evp_call Fa (hr.mono (by decide)) ⟨n, rs, hb, rfl, rfl⟩ (eva_1 (evp_var 0)))))) rfl))
theorem sc_next_below : FnScope ["book", "lot", "closed", "own"] ["book", "lot"] (defScope s_next_below) := ⟨rfl, rfl, rfl, by decide +kernel, rfl, by decide +kernel, by decide +kernel⟩
def R_next_below (ds : List PyData) (d : PyData) : Prop := ∃ n rs, Bk n rs ∧ ds = [bookD n rs, lotM (2 ^ n - 1)] ∧ d = lotsD (blw (closed n rs) (2 ^ n - 1))
theorem blw_len (cs : List Nat) (b : Nat) : (blw cs b).length ≤ cs.length := by
  unfold blw
  rw [ord_len]
  refine Nat.le_trans (foldl_len (blwF_len b) _ _) ?_
  rw [List.length_reverse]
  show 0 + _ ≤ _
  omega
theorem ok_next_below (F : Fun K "next_below" "next_below" s_next_below f fd) (T : Mg mg) (Fc : FnP P w K mg base 6 "closed_bits" ["book"] (spP K R_closed_bits)) (Fw : FnP P w K mg base 6 "below_closed" ["closed", "bits"] (spP K R_below_closed)) (Fi : FnP P w K mg base 1 "closure_in" ["closed", "bits"] (spP K R_closure_in)) (Fb : FnP P w K mg base 1 "bits_of" ["lot"] (spP K R_bits_of)) (Fl : FnP P w K mg base 1 "lot_of" ["bits"] (spP K R_lot_of)) :
    FnOk P w K mg base CX0 7 f fd ["book", "lot"] (spP K R_next_below) := by
  refine fun_pure F sc_next_below (fun ds d ⟨_, _, _, e, _⟩ => by rw [e]; rfl) (fun cdv A outer s H E hr ds d ⟨n, rs, hb, e1, e2⟩ => ?_)
  subst e1 e2
  have hcl := closed_len' hb
  have hbl := blw_len (closed n rs) (2 ^ n - 1)
  refine ex_cons (e1_set 2 (ev_p (evp_call Fc hr ⟨n, rs, hb, rfl, rfl⟩ (eva_1 (evp_var 0))) ?_) sc_next_below.nd)
  exact ex_one (e1_ret (ev_p (evp_tupL T.tuple (evf_p (evf_c1 sc_next_below (lc1n 3 (blw (closed n rs) (2 ^ n - 1)) nt lotM (evi_list (evp_call Fw hr ⟨closed n rs, 2 ^ n - 1, by omega, rfl, rfl⟩ (eva_cons (evp_var 2) (eva_1 (evp_call Fi (hr.mono (by decide)) ⟨closed n rs, 2 ^ n - 1, rfl, by rw [find_whole hb]; rfl⟩ (eva_cons (evp_var 2) (eva_1 (evp_call Fb (hr.mono (by decide)) (lo_bits (lt10 hb.n10 (whole_lt n))) (eva_1 (evp_var 1)))))))))) (by omega)
    (fun _ _ _ _ _ o _ => evp_call Fl (hr.mono (by decide)) ⟨o, rfl, rfl⟩ (eva_1 (evp_var 3))))))) rfl))
theorem sc_nonkeys : FnScope ["book"] ["book"] (defScope s_nonkeys) := ⟨rfl, rfl, rfl, by decide +kernel, rfl, by decide +kernel, by decide +kernel⟩
def R_nonkeys (ds : List PyData) (d : PyData) : Prop := ∃ n rs, Bk n rs ∧ ds = [bookD n rs] ∧ d = lotsD (blw (closed n rs) (2 ^ n - 1))
theorem ok_nonkeys (F : Fun K "nonkeys" "nonkeys" s_nonkeys f fd) (Fn : FnP P w K mg base 7 "next_below" ["book", "lot"] (spP K R_next_below)) (Fa : FnP P w K mg base 1 "all_things" ["book"] (spP K R_all_things)) : FnOk P w K mg base CX0 8 f fd ["book"] (spP K R_nonkeys) := by
  refine fun_pure F sc_nonkeys (fun ds d ⟨_, _, _, e, _⟩ => by rw [e]; rfl) (fun cdv A outer s H E hr ds d ⟨n, rs, hb, e1, e2⟩ => ?_)
  subst e1 e2
  exact ex_one (e1_ret (ev_p (evp_call Fn hr ⟨n, rs, hb, rfl, rfl⟩ (eva_cons (evp_var 0) (eva_1 (evp_call Fa (hr.mono (by decide)) ⟨n, rs, hb, rfl, rfl⟩ (eva_1 (evp_var 0)))))) rfl))
end
end Mt

set_option maxHeartbeats 1000000
namespace Mt
open PySem PySem.Spec PyProof.Rows L2
section
variable {X : Cx} {a b c e tg iter elt : Expr} {es ifs : List Expr} {Γ : Gm} {d : PyData} {ds ds' : List PyData} {pos p : Pos} {x : Str}
/-! ### list + list, both read -/
def rCatL (K : PySem.W.Frag) : R2 := fun x y H Q => ∃ l b xs zs, x = .ref l ∧ y = .ref b ∧ SqL K H l xs ∧ SqL K H b zs ∧ xs.length + zs.length ≤ sizeLine ∧ ∀ p, H p = none → Q (.ref p) (upd H p (.lst (xs ++ zs)))
theorem op_catL : OpR X (binaryOp .Add) (rCatL X.K) := by
  intro pins s σ H x y v u Q I rx ry h
  obtain ⟨l, b, xs, zs, rfl, rfl, hH, hB, hz, q⟩ := h
  cases rx
  cases ry
  obtain ⟨its, r, ⟨⟨cls, dd, data, sl⟩, n, e, c1, c2, c3⟩, hl⟩ := I.list hH
  obtain ⟨its2, r2, ⟨⟨cls', dd', data', sl'⟩, n2, e2, k1, k2, k3⟩, hl2⟩ := I.list hB
  simp only at c1 c2 c3 k1 k2 k3
  subst c1 c2 c3 k1 k2 k3
  refine concat_meets ⟨_, e, rfl⟩ ⟨_, e2, rfl⟩ noFill_list_add seq_list_add PySem.F.slot_list_add PySem.F.entry_list_add (PySem.F.args_list_add_2 _ _) (list_addW l b its.toArray its2.toArray n n2 none none sl sl' (by rw [List.size_toArray, List.size_toArray, ← r.length, ← r2.length]; exact hz)) ⟨e, e2, ?_⟩
  have ea : its.toArray ++ its2.toArray = (its ++ its2).toArray := by simp
  rw [ea]
  exact ⟨.ref _, _, I.lnew (t' := s.toks) (r.append r2) (by rw [List.length_append]; omega), rfl, q _ I.fresh⟩
theorem evf_cat (ha : EvP X a Γ (.list ds)) (hb : EvP X b Γ (.list ds')) (hl : ds.length + ds'.length ≤ sizeLine) : EvF X (.BinOp a .Add b pos) Γ (ds ++ ds') := fun B F σ H Q g k =>
  sE_of (pe_op op_catL pe_s pe_s) (evp_two ha hb g fun v u H' s q1 q2 => by
    obtain ⟨l1, w1, rfl, h1, h2⟩ := dp_list q1
    obtain ⟨l2, w2, rfl, h3, h4⟩ := dp_list q2
    exact ⟨l1, l2, w1, w2, rfl, rfl, hid_le.seq h1, hid_le.seq h3, by rw [dps_len h2, dps_len h4]; exact hl, fun l hl => evf_laid g k s (dps_app h2 h4) l hl⟩)
/-! ### e == [], e != [] -/
theorem lay_nts : ∀ l : List Nat, PyData.canLayAll0 (l.map nt) = true
  | [] => rfl
  | x :: l => by
    rw [List.map_cons, PyData.canLayAll0, lay_nts l]
    rfl
theorem shaped_ints (l : List Nat) : SeqAt.shaped (intsD l) = true := by
  have := depthAll_ints l
  unfold SeqAt.shaped
  rw [Bool.and_eq_true]
  refine ⟨?_, decide_eq_true ?_⟩
  · rw [PyData.canLay0]
    exact lay_nts l
  · rw [PyData.depth]
    omega
theorem eqv_nil (l : List PyData) : PyData.eqv (.list l) (.list []) = l.isEmpty := by
  cases l <;> rfl
theorem etn_isnil {l : List Nat} {p2 : Pos} (hu : X.A.units + 64 < cLine) (ha : EvP X a Γ (intsD l)) : EvT X (.Compare a [.Eq] [.List [] p2] pos) Γ l.isEmpty := by
  have h := evt_eqD (pos := pos) hu ha (evf_p (evf_lst (pos := p2) eva_nil)) (shaped_ints l) (shaped_ints [])
  rw [eqv_nil] at h
  have : (l.map nt).isEmpty = l.isEmpty := by cases l <;> rfl
  rw [this] at h
  exact h
theorem etn_nonil {l : List Nat} {p2 : Pos} (hu : X.A.units + 64 < cLine) (ha : EvP X a Γ (intsD l)) : EvT X (.Compare a [.NotEq] [.List [] p2] pos) Γ (!l.isEmpty) := by
  have h := evt_neD (pos := pos) hu ha (evf_p (evf_lst (pos := p2) eva_nil)) (shaped_ints l) (shaped_ints [])
  rw [eqv_nil] at h
  have : (l.map nt).isEmpty = l.isEmpty := by cases l <;> rfl
  rw [this] at h
  exact h
/-- the ones of [1 for .. if ..] -/
theorem ones {α : Type} (l : List α) : l.map (fun _ => nt 1) = (l.map fun _ => 1).map nt := by
  rw [List.map_map] <;> rfl
theorem ones_nil {α : Type} (l : List α) (t : α → Bool) : ((l.filter t).map fun _ => 1).isEmpty = l.all fun x => !t x := by
  induction l with
  | nil => rfl
  | cons x l ih =>
    rw [List.filter_cons, List.all_cons, ← ih]
    cases t x <;> rfl
theorem etn_isnil1 {α : Type} (l : List α) (t : α → Bool) {p2 : Pos} (hu : X.A.units + 64 < cLine) (ha : EvP X a Γ (.list ((l.filter t).map fun _ => nt 1))) : EvT X (.Compare a [.Eq] [.List [] p2] pos) Γ (l.all fun x => !t x) := by
  rw [ones] at ha
  rw [← ones_nil]
  exact etn_isnil hu ha
theorem etn_nonil1 {α : Type} (l : List α) (t : α → Bool) {p2 : Pos} (hu : X.A.units + 64 < cLine) (ha : EvP X a Γ (.list ((l.filter t).map fun _ => nt 1))) : EvT X (.Compare a [.NotEq] [.List [] p2] pos) Γ (!l.all fun x => !t x) := by
  rw [ones] at ha
  rw [← ones_nil]
  exact etn_nonil hu ha
end
theorem un64 {k : Nat} {A : Around} (h : Room k A) : A.units + 64 < cLine := by have := h.un; omega
/-! ### what the law's small defs are worth -/
def sprd (ims : List Nat) (m : Nat) : Nat := ((ims.zipIdx.filter fun p => m.testBit p.2).map (·.1)).sum
def stp1 (acc : List Nat) (m : Nat) (fresh : List Nat) (own : Nat) : List Nat :=
  ((List.range 10).filter fun t => m.testBit t).foldl (fun fr t => if acc.all (fun l => !decide (l &&& (own ||| 2 ^ t) = l)) then fr ++ [own ||| 2 ^ t] else fr) fresh
def stp (found : List Nat) (m : Nat) : List Nat :=
  let stays := found.filter fun o => !decide (o &&& m = 0)
  stays ++ (found.filter fun o => decide (o &&& m = 0)).foldl (stp1 stays m) []
def stps (ms : List Nat) : List Nat := ms.foldl stp [0]
section
variable {P : Program} {w : World} {K : PySem.W.Frag} {mg : Str → Option Value} {base : Heap} {f : Addr} {fd : FuncData}
theorem sc_w_lot : FnScope ["_law_mask_here", "_law_one"] ["_law_mask_here"] (defScope s_w_lot) := ⟨rfl, rfl, rfl, by decide +kernel, rfl, by decide +kernel, by decide +kernel⟩
theorem ok_w_lot (F : Fun K "_law_lot" "_law_lot" s_w_lot f fd) (T : Mg mg) : FnOk P w K mg base CX0 1 f fd ["_law_mask_here"] (spP K R_lot_of) := by
  refine fun_pure F sc_w_lot (fun ds d ⟨b, e, _⟩ => by rw [e]; rfl) (fun cdv A outer s H E hr ds d ⟨b, e1, e2⟩ => ?_)
  subst e1 e2
  exact ex_one (e1_ret (ev_p (evp_tupL T.tuple (evf_p (evf_c1 sc_w_lot (lc1 1 (List.range 10) nt (fun t => b.testBit t) nt (evi_rngN T.range (evn_k 10) (by decide)) (by decide)
    (fun _ _ _ _ _ t _ => evc_one (etn_bit1 (evp_var 0) (evp_var 1))) (fun _ _ _ _ _ t _ _ => evp_var 1))))) rfl))
theorem sc_w_mask : FnScope ["_law_own", "_law_one"] ["_law_own"] (defScope s_w_mask) := ⟨rfl, rfl, rfl, by decide +kernel, rfl, by decide +kernel, by decide +kernel⟩
def msk (l : List Nat) : Nat := (l.map (2 ^ ·)).sum
def R_w_mask (ds : List PyData) (d : PyData) : Prop := ∃ l : List Nat, l.length ≤ 100000 ∧ (∀ t ∈ l, t ≤ 100) ∧ ds = [lotD l] ∧ d = nt (msk l)
theorem ok_w_mask (F : Fun K "_law_mask" "_law_mask" s_w_mask f fd) (T : Mg mg) : FnOk P w K mg base CX0 1 f fd ["_law_own"] (spP K R_w_mask) := by
  refine fun_pure F sc_w_mask (fun ds d ⟨_, _, _, e, _⟩ => by rw [e]; rfl) (fun cdv A outer s H E hr ds d ⟨l, hl, ht, e1, e2⟩ => ?_)
  subst e1 e2
  refine ex_one (e1_ret (ev_p (evn_sum T.sum ?_) rfl))
  rw [List.map_map]
  exact evf_p (evf_c1 sc_w_mask (lc1n 1 l nt (fun t => nt (2 ^ t)) (evi_tup (evp_var 0)) hl (fun _ _ _ _ _ t hm => evn_shl (evp_var 1) (by have := ht t hm; omega))))
theorem sc_w_rank : FnScope ["_law_own"] ["_law_own"] (defScope s_w_rank) := ⟨rfl, rfl, rfl, by decide +kernel, rfl, by decide +kernel, by decide +kernel⟩
theorem ok_w_rank (F : Fun K "_law_rank" "_law_rank" s_w_rank f fd) (T : Mg mg) : FnOk P w K mg base CX0 1 f fd ["_law_own"] (spP K R_lot_key) := by
  refine fun_pure F sc_w_rank (fun ds d ⟨b, e, _⟩ => by rw [e]; rfl) (fun cdv A outer s H E hr ds d ⟨l, e1, e2⟩ => ?_)
  subst e1 e2
  refine ex_one (e1_ret (ev_p (evp_tup (eva_cons (evp_lenT T.len (evp_var 0)) (eva_1 (evp_var 0)))) ?_))
  show PyData.tuple [nt (l.map nt).length, lotD l] = kd l
  rw [List.length_map] <;> rfl
theorem sc_w_lots : FnScope ["_law_masks", "_law_mask_here"] ["_law_masks"] (defScope s_w_lots) := ⟨rfl, rfl, rfl, by decide +kernel, rfl, by decide +kernel, by decide +kernel⟩
def R_w_lots (ds : List PyData) (d : PyData) : Prop := ∃ ms : List Nat, ms.length ≤ 100000 ∧ ds = [intsD ms] ∧ d = .tuple ((ord ms).map lotM)
theorem ok_w_lots (F : Fun K "_law_lots" "_law_lots" s_w_lots f fd) (T : Mg mg) (Fl : FnP P w K mg base 1 "_law_lot" ["_law_mask_here"] (spP K R_lot_of)) (Fr : FnP P w K mg base 1 "_law_rank" ["_law_own"] (spP K R_lot_key)) : FnOk P w K mg base CX0 4 f fd ["_law_masks"] (spP K R_w_lots) := by
  refine fun_pure F sc_w_lots (fun ds d ⟨_, _, e, _⟩ => by rw [e]; rfl) (fun cdv A outer s H E hr ds d ⟨ms, hl, e1, e2⟩ => ?_)
  subst e1 e2
  exact ex_one (e1_ret (ev_p (evp_tupL T.tuple (evf_p (evf_sortK ms lotM kdM Fr (hr.mono (by decide)) rfl T.sorted (evf_p (evf_c1 sc_w_lots (lc1n 1 ms nt lotM (evi_list (evp_var 0)) hl (fun _ _ _ _ _ m _ => evp_call Fl (hr.mono (by decide)) ⟨m, rfl, rfl⟩ (eva_1 (evp_var 1))))))
    (fun x _ => ⟨lotOf x, rfl, rfl⟩) (allAlike_kd ms lotOf) (sortable_kd ms lotOf) (fun x _ => depth_kd _) (Nat.le_trans hl (by decide))))) rfl))
theorem sc_w_closed : FnScope ["_law_wide", "_law_needs_here", "_law_found", "_law_mask_here", "_law_ahead", "_law_behind"] ["_law_wide", "_law_needs_here"] (defScope s_w_closed) := ⟨rfl, rfl, rfl, by decide +kernel, rfl, by decide +kernel, by decide +kernel⟩
def R_w_closed (ds : List PyData) (d : PyData) : Prop := ∃ n rs, n ≤ 10 ∧ rs.length ≤ 1000 ∧ ds = [nt n, rulesD rs] ∧ d = intsD ((List.range (2 ^ n)).filter (kept rs))
theorem ok_w_closed (F : Fun K "_law_closed" "_law_closed" s_w_closed f fd) (T : Mg mg) : FnOk P w K mg base CX0 1 f fd ["_law_wide", "_law_needs_here"] (spP K R_w_closed) := by
  refine fun_pure F sc_w_closed (fun ds d ⟨_, _, _, _, e, _⟩ => by rw [e]; rfl) (fun cdv A outer s H E hr ds d ⟨n, rs, hn, hl, e1, e2⟩ => ?_)
  subst e1 e2
  have hp := pow10 hn
  refine ex_cons (e1_setF 2 (evf_lst eva_nil) (by show 2 < 6; decide) ?_ sc_w_closed.nd)
  refine ex_cons (e1_forG 3 (List.range (2 ^ n)) nt (fun i => [some (.d (nt n)), some (.d (rulesD rs)), some (.l ((((List.range (2 ^ n)).take i).filter (kept rs)).map nt)), none, none, none]) (evi_rngN T.range (evn_shl (evp_var 0) (by omega)) (by omega)) rfl (fun _ => rfl) (fun i b hx => ?_) ?_ PassesOwn.never rfl sc_w_closed.nd)
  · have hil : i < 2 ^ n := by
      have := (List.getElem?_eq_some_iff.mp hx).1
      rwa [List.length_range] at this
    have hk : ((rs.filter fun r => decide (r.1 &&& b = r.1) && !decide (r.2 &&& b = r.2)).map fun _ => 1).isEmpty = kept rs b := by
      rw [ones_nil]
      unfold kept
      congr 1
      funext r
      rw [Nat.and_comm r.1, Nat.and_comm r.2]
    refine ex_one (e1_if (etn_isnil (l := (rs.filter fun r => decide (r.1 &&& b = r.1) && !decide (r.2 &&& b = r.2)).map fun _ => 1) (un64 hr) ?_) (fun hk' => ?_) (fun hk' => ?_))
    · rw [intsD, ← ones]
      exact evf_p (evf_c2 sc_w_closed (k := 4) (m := 5) (lc2 4 5 rs (fun r => nt r.1) (fun r => nt r.2) (fun r => decide (r.1 &&& b = r.1) && !decide (r.2 &&& b = r.2)) (fun _ => nt 1) (evi_list (evp_var 1)) (Nat.le_trans hl (by decide))
        (fun _ _ _ _ _ r _ => evc_one (evt_and (etn_eq (evn_and (evp_var 4) (evp_var 3)) (evp_var 4)) (fun _ => etn_ne (evn_and (evp_var 5) (evp_var 3)) (evp_var 5)))) (fun _ _ _ _ _ r _ _ => evn_k 1))
        (hg := fun _ _ _ _ _ => pg_tup rfl (pgs_cons (pg_name (i := 4) sc_w_closed.nd rfl (Or.inl rfl)) (pgs_cons (pg_name (i := 5) sc_w_closed.nd rfl (Or.inl rfl)) pgs_nil))))
    · refine ex_one (e1_app 2 (evp_var 3) rfl ?_ ?_)
      · rw [List.length_map]
        refine Nat.lt_of_le_of_lt (List.length_filter_le ..) ?_
        rw [List.length_take]
        exact Nat.lt_of_le_of_lt (Nat.le_trans (Nat.min_le_left _ _) (show i ≤ 1024 by omega)) (by decide)
      · rw [take_snoc hx, List.filter_append, List.map_append]
        have : [b].filter (kept rs) = [b] := by
          rw [hk] at hk'
          rw [List.filter_cons, if_pos hk'] <;> rfl
        rw [this]
        rfl
    · refine ex_nil ?_
      rw [take_snoc hx, List.filter_append]
      have : [b].filter (kept rs) = [] := by
        rw [hk] at hk'
        rw [List.filter_cons, if_neg (by rw [hk']; decide)] <;> rfl
      rw [this, List.append_nil]
      rfl
  · rw [List.take_length]
    exact ex_frz 2 rfl (ex_one (e1_ret (ev_p (evp_var 2) rfl)))
theorem sc_w_tome : FnScope ["_law_wide", "_law_needs_here", "_law_ahead", "_law_behind"] ["_law_wide", "_law_needs_here"] (defScope s_w_tome) := ⟨rfl, rfl, rfl, by decide +kernel, rfl, by decide +kernel, by decide +kernel⟩
def R_w_tome (ds : List PyData) (d : PyData) : Prop := ∃ n rs, rs.length ≤ 1000 ∧ ds = [nt n, rulesD rs] ∧ d = bookD n rs
theorem ok_w_tome (F : Fun K "_law_tome" "_law_tome" s_w_tome f fd) (T : Mg mg) (Fl : FnP P w K mg base 1 "_law_lot" ["_law_mask_here"] (spP K R_lot_of)) : FnOk P w K mg base CX0 2 f fd ["_law_wide", "_law_needs_here"] (spP K R_w_tome) := by
  refine fun_pure F sc_w_tome (fun ds d ⟨_, _, _, e, _⟩ => by rw [e]; rfl) (fun cdv A outer s H E hr ds d ⟨n, rs, hl, e1, e2⟩ => ?_)
  subst e1 e2
  exact ex_one (e1_ret (ev_p (evp_tup (eva_cons (evp_var 0) (eva_1 (evp_tupL T.tuple (evf_p (evf_c2 sc_w_tome (k := 2) (m := 3) (lc2n 2 3 rs (fun r => nt r.1) (fun r => nt r.2) (fun r => .tuple [lotM r.1, lotM r.2]) (evi_list (evp_var 1)) (Nat.le_trans hl (by decide))
    (fun _ _ _ _ _ r _ => evp_tup (eva_cons (evp_call Fl hr ⟨_, rfl, rfl⟩ (eva_1 (evp_var 2))) (eva_1 (evp_call Fl hr ⟨_, rfl, rfl⟩ (eva_1 (evp_var 3)))))))
    (hg := fun _ _ _ _ _ => pg_tup rfl (pgs_cons (pg_name (i := 2) sc_w_tome.nd rfl (Or.inl rfl)) (pgs_cons (pg_name (i := 3) sc_w_tome.nd rfl (Or.inl rfl)) pgs_nil))))))))) rfl))
theorem sc_w_spread : FnScope ["_law_images", "_law_mask_here", "_law_at", "_law_image"] ["_law_images", "_law_mask_here"] (defScope s_w_spread) := ⟨rfl, rfl, rfl, by decide +kernel, rfl, by decide +kernel, by decide +kernel⟩
def R_w_spread (ds : List PyData) (d : PyData) : Prop := ∃ (ims : List Nat) (m : Nat), ims.length ≤ 1000 ∧ ds = [intsD ims, nt m] ∧ d = nt (sprd ims m)
theorem ok_w_spread (F : Fun K "_law_spread" "_law_spread" s_w_spread f fd) (T : Mg mg) : FnOk P w K mg base CX0 1 f fd ["_law_images", "_law_mask_here"] (spP K R_w_spread) := by
  refine fun_pure F sc_w_spread (fun ds d ⟨_, _, _, e, _⟩ => by rw [e]; rfl) (fun cdv A outer s H E hr ds d ⟨ims, m, hl, e1, e2⟩ => ?_)
  subst e1 e2
  refine ex_one (e1_ret (ev_p (evn_sum T.sum ?_) rfl))
  rw [List.map_map]
  have hi : EvI (Cb P w K mg base ["_law_images", "_law_mask_here", "_law_at", "_law_image"] "_law_spread" s_w_spread f cdv A outer s H E) (.Tuple [.Name "_law_at" default, .Name "_law_image" default] 0 default) (.Call (.Name "enumerate" default) [.Name "_law_images" default] [] default)
      (start0 ["_law_images", "_law_mask_here", "_law_at", "_law_image"] [intsD ims, nt m]) ((ims.map nt).zipIdx.map fun p => PyData.tuple [.int (p.2 : Nat), p.1]) := evi_enum T.enumerate (evp_var 0)
  have e0 : ((ims.map nt).zipIdx.map fun p => PyData.tuple [.int (p.2 : Nat), p.1]) = ims.zipIdx.map fun z => PyData.tuple [nt z.2, nt z.1] := by
    rw [List.zipIdx_map, List.map_map] <;> rfl
  exact evf_p (evf_c2 sc_w_spread (k := 2) (m := 3) (lc2 2 3 ims.zipIdx (fun z => nt z.2) (fun z => nt z.1) (fun z => m.testBit z.2) (fun z => nt z.1) (by rw [← e0]; exact evi_enum T.enumerate (evp_var 0)) (by rw [List.length_zipIdx]; omega)
    (fun _ _ _ _ _ z _ => evc_one (etn_bit1 (evp_var 1) (evp_var 2))) (fun _ _ _ _ _ z _ _ => evp_var 3))
    (hg := fun _ _ _ _ _ => pg_tup rfl (pgs_cons (pg_name (i := 2) sc_w_spread.nd rfl (Or.inl rfl)) (pgs_cons (pg_name (i := 3) sc_w_spread.nd rfl (Or.inl rfl)) pgs_nil))))
theorem sc_w_greatest : FnScope ["_law_masks", "_law_own", "_law_more"] ["_law_masks"] (defScope s_w_greatest) := ⟨rfl, rfl, rfl, by decide +kernel, rfl, by decide +kernel, by decide +kernel⟩
def R_w_greatest (ds : List PyData) (d : PyData) : Prop := ∃ ms : List Nat, ms.length ≤ 100000 ∧ ds = [intsD ms] ∧ d = intsD (gre ms)
theorem ok_w_greatest (F : Fun K "_law_greatest" "_law_greatest" s_w_greatest f fd) (T : Mg mg) : FnOk P w K mg base CX0 1 f fd ["_law_masks"] (spP K R_w_greatest) := by
  refine fun_pure F sc_w_greatest (fun ds d ⟨_, _, e, _⟩ => by rw [e]; rfl) (fun cdv A outer s H E hr ds d ⟨ms, hl, e1, e2⟩ => ?_)
  subst e1 e2
  have eg : gre ms = ms.filter fun b => ms.all fun o => !(!decide (o = b) && decide (o &&& b = b)) := by
    unfold gre
    congr 1
    funext b
    rw [List.any_map, ← List.not_any_eq_all_not]
    rfl
  rw [eg]
  exact ex_one (e1_ret (ev_p (evf_p (evf_c1 sc_w_greatest (lc1 1 ms nt (fun b => ms.all fun o => !(!decide (o = b) && decide (o &&& b = b))) nt (evi_list (evp_var 0)) hl
    (fun _ _ _ _ _ b _ => evc_one (etn_isnil1 ms (fun o => !decide (o = b) && decide (o &&& b = b)) (un64 hr) (evf_p (evf_c1 sc_w_greatest (lc1 2 ms nt (fun o => !decide (o = b) && decide (o &&& b = b)) (fun _ => nt 1) (evi_list (evp_var 0)) hl
    (fun _ _ _ _ _ o _ => evc_one (evt_and (etn_ne (evp_var 2) (evp_var 1)) (fun _ => etn_eq (evn_and (evp_var 2) (evp_var 1)) (evp_var 1)))) (fun _ _ _ _ _ o _ _ => evn_k 1)))))) (fun _ _ _ _ _ b _ _ => evp_var 1)))) rfl))
end
end Mt

set_option maxHeartbeats 1000000
namespace Mt
open PySem PySem.Spec PyProof.Rows L2
/-! ### least ways to meet all, step by step -/
def cand (m own : Nat) : List Nat := (lotOf m).map fun t => own ||| 2 ^ t
def stays (found : List Nat) (m : Nat) : List Nat := found.filter fun o => !decide (o &&& m = 0)
def rests0 (found : List Nat) (m : Nat) : List Nat := found.filter fun o => decide (o &&& m = 0)
def okB (st : List Nat) (x : Nat) : Bool := st.all fun l => !decide (l &&& x = l)
def stpB (found : List Nat) (m : Nat) : List Nat := stays found m ++ ((rests0 found m).flatMap (cand m)).filter (okB (stays found m))
def stpsB (ms : List Nat) : List Nat := ms.foldl stpB [0]
theorem cand_len (m own : Nat) : (cand m own).length ≤ 10 := by
  unfold cand
  rw [List.length_map]
  exact lotOf_len m
theorem flat_len (m : Nat) : ∀ l : List Nat, (l.flatMap (cand m)).length ≤ 10 * l.length
  | [] => by simp
  | x :: l => by
    have h1 := flat_len m l
    have h2 := cand_len m x
    rw [List.flatMap_cons, List.length_append, List.length_cons]
    omega
theorem flat_snoc {m : Nat} {l : List Nat} {i x : Nat} (h : l[i]? = some x) : (l.take (i + 1)).flatMap (cand m) = (l.take i).flatMap (cand m) ++ cand m x := by
  rw [take_snoc h, List.flatMap_append, List.flatMap_cons, List.flatMap_nil, List.append_nil]
/-- each is there once, all below 1024 -/
structure Few (l : List Nat) : Prop where
  nd : l.Nodup
  lt : ∀ x ∈ l, x < 1024
theorem nd_len : ∀ (n : Nat) (l : List Nat), l.Nodup → (∀ x ∈ l, x < n) → l.length ≤ n
  | 0, [], _, _ => Nat.le_refl _
  | 0, x :: _, _, h => absurd (h x List.mem_cons_self) (by omega)
  | n + 1, l, hn, h => by
    have h1 := nd_len n (l.erase n) (hn.erase n) fun x hx => by
      have := (hn.mem_erase_iff).mp hx
      have := h x this.2
      omega
    rw [List.length_erase] at h1
    split at h1 <;> omega
theorem Few.len {l : List Nat} (h : Few l) : l.length ≤ 1024 := nd_len 1024 l h.nd h.lt
theorem or_one_lt {own t : Nat} (h : own < 1024) (ht : t < 10) : own ||| 2 ^ t < 1024 := Nat.or_lt_two_pow (n := 10) h (Nat.pow_lt_pow_right (by decide) ht)
theorem cand_inj {m o1 o2 t1 t2 : Nat} (h1 : o1 &&& m = 0) (h2 : o2 &&& m = 0) (b1 : m.testBit t1 = true) (b2 : m.testBit t2 = true) (e : o1 ||| 2 ^ t1 = o2 ||| 2 ^ t2) : o1 = o2 ∧ t1 = t2 := by
  have z1 : ∀ i, m.testBit i = true → o1.testBit i = false := fun i hi => by
    have := congrArg (fun x => x.testBit i) h1
    simp only [Nat.testBit_and, hi, Bool.and_true, Nat.zero_testBit] at this
    exact this
  have z2 : ∀ i, m.testBit i = true → o2.testBit i = false := fun i hi => by
    have := congrArg (fun x => x.testBit i) h2
    simp only [Nat.testBit_and, hi, Bool.and_true, Nat.zero_testBit] at this
    exact this
  have bt : ∀ i, (o1.testBit i || decide (t1 = i)) = (o2.testBit i || decide (t2 = i)) := fun i => by
    have := congrArg (fun x => x.testBit i) e
    simp only [Nat.testBit_or, Nat.testBit_two_pow] at this
    exact this
  have et : t1 = t2 := by
    have := bt t1
    rw [z1 t1 b1, z2 t1 b1] at this
    have h3 : decide (t2 = t1) = true := by simpa using this.symm
    exact (of_decide_eq_true h3).symm
  refine ⟨Nat.eq_of_testBit_eq fun i => ?_, et⟩
  subst et
  by_cases hi : t1 = i
  · subst hi
    rw [z1 t1 b1, z2 t1 b1]
  · have := bt i
    simpa [hi] using this
theorem lotOf_nodup (m : Nat) : (lotOf m).Nodup := List.Pairwise.filter _ List.nodup_range
theorem mem_cand {m own x : Nat} : x ∈ cand m own ↔ ∃ t, t < 10 ∧ m.testBit t = true ∧ x = own ||| 2 ^ t := by
  unfold cand
  rw [List.mem_map]
  constructor
  · rintro ⟨t, ht, rfl⟩
    exact ⟨t, (mem_lotOf.mp ht).1, (mem_lotOf.mp ht).2, rfl⟩
  · rintro ⟨t, h1, h2, rfl⟩
    exact ⟨t, mem_lotOf.mpr ⟨h1, h2⟩, rfl⟩
theorem flat_nodup (m : Nat) : ∀ l : List Nat, l.Nodup → (∀ o ∈ l, o &&& m = 0) → (l.flatMap (cand m)).Nodup
  | [], _, _ => by simp
  | x :: l, hn, h => by
    rw [List.nodup_cons] at hn
    rw [List.flatMap_cons, List.nodup_append]
    refine ⟨?_, flat_nodup m l hn.2 fun o ho => h o (List.mem_cons_of_mem _ ho), fun a ha b hb e => ?_⟩
    · unfold cand
      rw [List.Nodup, List.pairwise_map]
      refine List.Pairwise.imp_of_mem (fun {a b} ha hb hne e => hne ?_) (lotOf_nodup m)
      exact (cand_inj (h x List.mem_cons_self) (h x List.mem_cons_self) (mem_lotOf.mp ha).2 (mem_lotOf.mp hb).2 e).2
    · subst e
      obtain ⟨t1, _, b1, e1⟩ := mem_cand.mp ha
      obtain ⟨o, ho, hb⟩ := List.mem_flatMap.mp hb
      obtain ⟨t2, _, b2, e2⟩ := mem_cand.mp hb
      have := (cand_inj (h x List.mem_cons_self) (h o (List.mem_cons_of_mem _ ho)) b1 b2 (e1.symm.trans e2)).1
      rw [this] at hn
      exact hn.1 ho
theorem stpB_few {found : List Nat} {m : Nat} (h : Few found) : Few (stpB found m) := by
  have hr : ∀ o ∈ rests0 found m, o ∈ found ∧ o &&& m = 0 := fun o ho => by
    have := List.mem_filter.mp ho
    exact ⟨this.1, of_decide_eq_true this.2⟩
  refine ⟨?_, fun x hx => ?_⟩
  · unfold stpB
    rw [List.nodup_append]
    refine ⟨List.Pairwise.filter _ h.nd, List.Pairwise.filter _ (flat_nodup m _ (List.Pairwise.filter _ h.nd) fun o ho => (hr o ho).2), fun a ha b hb e => ?_⟩
    subst e
    have h1 := (List.mem_filter.mp hb).2
    have h2 := List.all_eq_true.mp h1 a ha
    rw [Nat.and_self] at h2
    simp at h2
  · unfold stpB at hx
    rcases List.mem_append.mp hx with hx | hx
    · exact h.lt x (List.mem_filter.mp hx).1
    · obtain ⟨o, ho, hb⟩ := List.mem_flatMap.mp (List.mem_filter.mp hx).1
      obtain ⟨t, ht, _, rfl⟩ := mem_cand.mp hb
      exact or_one_lt (h.lt o (hr o ho).1) ht
theorem stpsB_few (ms : List Nat) : Few (stpsB ms) := by
  have : ∀ (ms : List Nat) (f : List Nat), Few f → Few (ms.foldl stpB f) := by
    intro ms
    induction ms with
    | nil => intro f h; exact h
    | cons m ms ih =>
      intro f h
      rw [List.foldl_cons]
      exact ih _ (stpB_few h)
  exact this ms [0] ⟨by simp, fun x hx => by simp at hx; omega⟩
section
variable {P : Program} {w : World} {K : PySem.W.Frag} {mg : Str → Option Value} {base : Heap} {f : Addr} {fd : FuncData}
theorem sc_w_by_steps : FnScope ["_law_masks", "_law_found", "_law_stays", "_law_fresh", "_law_mask_here", "_law_own", "_law_more", "_law_one", "_law_old", "_law_less"] ["_law_masks"] (defScope s_w_by_steps) := ⟨rfl, rfl, rfl, by decide +kernel, rfl, by decide +kernel, by decide +kernel⟩
def R_w_by_steps (ds : List PyData) (d : PyData) : Prop := ∃ ms : List Nat, ds = [intsD ms] ∧ d = intsD (stpsB ms)
theorem ok_w_by_steps (F : Fun K "_law_by_steps" "_law_by_steps" s_w_by_steps f fd) (T : Mg mg) : FnOk P w K mg base CX0 1 f fd ["_law_masks"] (spP K R_w_by_steps) := by
  refine fun_pure F sc_w_by_steps (fun ds d ⟨_, e, _⟩ => by rw [e]; rfl) (fun cdv A outer s H E hr ds d ⟨ms, e1, e2⟩ => ?_)
  subst e1 e2
  refine ex_cons (e1_set 1 (ev_p (evf_p (evf_lst (ds := [nt 0]) (eva_1 (evn_k 0)))) ?_) sc_w_by_steps.nd)
  refine ex_cons (e1_forG 4 ms nt (fun i => [some (.d (intsD ms)), some (.d (intsD (stpsB (ms.take i)))), none, none, none, none, none, none, none, none]) (evi_list (evp_var 0)) rfl (fun _ => rfl) (fun i m hx => ?_) ?_ PassesOwn.never rfl sc_w_by_steps.nd)
  · have hfw := stpsB_few (ms.take i)
    have hst : stpsB (ms.take (i + 1)) = stpB (stpsB (ms.take i)) m := by
      unfold stpsB
      rw [foldl_snoc hx]
    generalize hf : stpsB (ms.take i) = found at hfw hst
    rw [hst]
    have hlf := hfw.len
    refine ex_dropN 2 (ex_dropN 3 (ex_dropN 5 (ex_dropN 6 (ex_cons (e1_parF (d1 := intsD (stays found m)) (ds := []) (i := 2) (j := 3) ?_ (evf_lst eva_nil) (by show 3 < 10; decide) ?_ (by decide) rfl sc_w_by_steps.nd (by rfl))))))
    · exact evf_p (evf_c1 sc_w_by_steps (lc1 5 found nt (fun o => !decide (o &&& m = 0)) nt (evi_list (evp_var 1)) (by omega)
        (fun _ _ _ _ _ o _ => evc_one (etn_ne (evn_and (evp_var 5) (evp_var 4)) (evn_k 0))) (fun _ _ _ _ _ o _ _ => evp_var 5)))
    · refine ex_cons (e1_forG 5 (rests0 found m) nt (fun i => [some (.d (intsD ms)), some (.d (intsD found)), some (.d (intsD (stays found m))), some (.l (((((rests0 found m).take i).flatMap (cand m)).filter (okB (stays found m))).map nt)), some (.d (nt m)), none, none, none, none, none])
        (evi_list (evf_p (evf_c1 sc_w_by_steps (lc1 8 found nt (fun o => decide (o &&& m = 0)) nt (evi_list (evp_var 1)) (by omega)
          (fun _ _ _ _ _ o _ => evc_one (etn_eq (evn_and (evp_var 8) (evp_var 4)) (evn_k 0))) (fun _ _ _ _ _ o _ _ => evp_var 8))))) rfl (fun _ => rfl) (fun j own hy => ?_) ?_ PassesOwn.never rfl sc_w_by_steps.nd)
      · have hrl : (rests0 found m).length ≤ 1024 := Nat.le_trans (List.length_filter_le ..) hlf
        have hfl : ((((rests0 found m).take j).flatMap (cand m)).filter (okB (stays found m))).length ≤ 10240 := by
          refine Nat.le_trans (List.length_filter_le ..) (Nat.le_trans (flat_len m _) ?_)
          rw [List.length_take]
          omega
        refine ex_dropN 6 (ex_one (e1_forG 6 (cand m own) nt (fun i => [some (.d (intsD ms)), some (.d (intsD found)), some (.d (intsD (stays found m))), some (.l (((((rests0 found m).take j).flatMap (cand m)).filter (okB (stays found m)) ++ ((cand m own).take i).filter (okB (stays found m))).map nt)), some (.d (nt m)), some (.d (nt own)), none, none, none, none])
          (evi_list ?_) ?_ (fun _ => rfl) (fun k more hz => ?_) ?_ PassesOwn.never rfl sc_w_by_steps.nd))
        · rw [cand, List.map_map]
          exact evf_p (evf_c1 sc_w_by_steps (lc1 7 (List.range 10) nt (fun t => m.testBit t) (fun t => nt (own ||| 2 ^ t)) (evi_rngN T.range (evn_k 10) (by decide)) (by decide)
            (fun _ _ _ _ _ t _ => evc_one (etn_bit1 (evp_var 4) (evp_var 7))) (fun _ _ _ _ _ t ht _ => evn_or (evp_var 5) (evn_shl (evp_var 7) (by have := List.mem_range.mp ht; omega)))))
        · show _ = ([some (.d (intsD ms)), some (.d (intsD found)), some (.d (intsD (stays found m))), some (.l (((((rests0 found m).take j).flatMap (cand m)).filter (okB (stays found m)) ++ []).map nt)), some (.d (nt m)), some (.d (nt own)), none, none, none, none] : Gm)
          rw [List.append_nil]
          rfl
        · have hck := cand_len m own
          refine ex_one (e1_if (etn_isnil1 (stays found m) (fun l => decide (l &&& more = l)) (un64 hr) (evf_p (evf_c1 sc_w_by_steps (lc1 9 (stays found m) nt (fun l => decide (l &&& more = l)) (fun _ => nt 1) (evi_list (evp_var 2)) (Nat.le_trans (List.length_filter_le ..) (by omega))
            (fun _ _ _ _ _ l _ => evc_one (etn_eq (evn_and (evp_var 9) (evp_var 6)) (evp_var 9))) (fun _ _ _ _ _ l _ _ => evn_k 1))))) (fun hk => ?_) (fun hk => ?_))
          · refine ex_one (e1_app 3 (evp_var 6) rfl ?_ ?_)
            · rw [List.length_map, List.length_append]
              have : (((cand m own).take k).filter (okB (stays found m))).length ≤ 10 := Nat.le_trans (List.length_filter_le ..) (Nat.le_trans (List.length_take_le' ..) hck)
              exact Nat.lt_of_le_of_lt (Nat.add_le_add hfl this) (by decide)
            · rw [take_snoc hz, List.filter_append]
              have hk : okB (stays found m) more = true := hk
              have : [more].filter (okB (stays found m)) = [more] := by
                rw [List.filter_cons, if_pos hk] <;> rfl
              rw [this, ← List.append_assoc, List.map_append (l₂ := [more])]
              rfl
          · refine ex_nil ?_
            rw [take_snoc hz, List.filter_append]
            have : [more].filter (okB (stays found m)) = [] := by
              rw [List.filter_cons, if_neg (by show ¬ okB _ _ = true; rw [show okB (stays found m) more = false from hk]; decide)] <;> rfl
            rw [this, List.append_nil]
            rfl
        · rw [List.take_length, flat_snoc hy, List.filter_append]
          rfl
      · rw [List.take_length]
        refine ex_frz 3 rfl (ex_one (e1_set 1 (ev_p (evf_p (evf_cat (evp_var 2) (evp_var 3) ?_)) ?_) sc_w_by_steps.nd))
        · rw [List.length_map, List.length_map]
          have h1 : (stays found m).length ≤ 1024 := Nat.le_trans (List.length_filter_le ..) hlf
          have h2 : (((rests0 found m).flatMap (cand m)).filter (okB (stays found m))).length ≤ 10240 := by
            have h3 : (rests0 found m).length ≤ 1024 := Nat.le_trans (List.length_filter_le ..) hlf
            refine Nat.le_trans (List.length_filter_le ..) (Nat.le_trans (flat_len m _) ?_)
            omega
          exact Nat.le_trans (Nat.add_le_add h1 h2) (by decide)
        · rw [← List.map_append]
          rfl
  · rw [List.take_length]
    exact ex_one (e1_ret (ev_p (evp_var 1) rfl))
end
end Mt

set_option maxHeartbeats 2000000
namespace Mt
open PySem PySem.Spec PyProof.Rows L2
/-! ### values at a heap that stands -/
def VE (X : Cx) (σ : L2.St) (H : Hp) (e : Expr) (v : V) : Prop := ∀ Q : VK, Q v H → sE X e σ H Q
section
variable {X : Cx} {a b c e : Expr} {σ : L2.St} {H : Hp} {v : V} {pos p : Pos} {x : Str} {i j : Int}
theorem ve_var (k : Nat) (h : σ[k]? = some (some v)) (hN : X.N[k]? = some x := by rfl) (hv : Vis X.env.scope x := by first | exact Or.inl rfl | exact Or.inr (Or.inl rfl) | exact Or.inr (Or.inr rfl)) (hd1 : (x == ("__debug__" : Str)) = false := by decide) (hcd : (x == ("__classdict__" : Str)) = false := by decide) :
    VE X σ H (.Name x p) v := fun Q q => sE_of (pe_var hN hv hd1 hcd) ⟨v, h, q⟩
theorem ve_int {k : Nat} : VE X σ H (.Constant (.int i) k pos) (.int i) := fun Q q => sE_of pe_int q
theorem ve_bin {op : Operator} {C : Int → Int → Prop} {f : Int → Int → Int} (ho : OpR X (binaryOp op) (rI C fun i j => .int (f i j))) (hc : C i j) (ha : VE X σ H a (.int i)) (hb : VE X σ H b (.int j)) : VE X σ H (.BinOp a op b pos) (.int (f i j)) := fun Q q =>
  sE_of (pe_op ho pe_s pe_s) (ha _ (hb _ ⟨i, j, rfl, rfl, hc, q⟩))
theorem ve_add (ha : VE X σ H a (.int i)) (hb : VE X σ H b (.int j)) : VE X σ H (.BinOp a .Add b pos) (.int (i + j)) := fun Q q =>
  sE_of (pe_op op_add pe_s pe_s) (ha _ (hb _ ⟨i, j, rfl, rfl, q⟩))
theorem ve_mul (ha : VE X σ H a (.int i)) (hb : VE X σ H b (.int j)) (hc : CMulX i j) : VE X σ H (.BinOp a .Mult b pos) (.int (i * j)) := ve_bin op_mulX hc ha hb
theorem ve_mod (ha : VE X σ H a (.int i)) (hb : VE X σ H b (.int j)) (hc : 0 < j) : VE X σ H (.BinOp a .Mod b pos) (.int (i % j)) := ve_bin op_mod hc ha hb
theorem ve_fdiv (ha : VE X σ H a (.int i)) (hb : VE X σ H b (.int j)) (h0 : 0 < j) (h1 : j < 1073741824) : VE X σ H (.BinOp a .FloorDiv b pos) (.int (i / j)) := ve_bin op_fdiv ⟨h0, h1⟩ ha hb
theorem ve_ix {q : Addr} {xs : List V} (ha : VE X σ H a (.ref q)) (hb : VE X σ H b (.int i)) (hl : SqL X.K H q xs) (h : atI xs i = some v) (hp : PlainIx b := by exact fun _ _ => rfl) : VE X σ H (.Subscript a b pos) v := fun Q k =>
  sE_of (pe_ix ix_list pe_s pe_s hp) (ha _ (hb _ ⟨q, xs, i, v, rfl, rfl, hl, h, k⟩))
theorem ve_len {q : Addr} {xs : List V} (hm : X.mg "len" = none) (ha : VE X σ H e (.ref q)) (hl : SqL X.K H q xs) (hg : Gl X "len" := by rfl) (hs : starEach [e] X.env = (false, eval e X.env) :: starEach [] X.env := by rfl) : VE X σ H (.Call (.Name "len" p) [e] [] pos) (.int (xs.length : Nat)) := fun Q k =>
  sE_of (pe_callB call_len_seq hg hm PySem.boot_len (pa_cons pe_s pa_nil hs) (by decide) (by decide) hs rfl) (ha _ ⟨q, xs, rfl, .inl hl, k⟩)
theorem ve_int1 (hm : X.mg "int" = none) (ha : VE X σ H e (.int i)) (hg : Gl X "int" := by rfl) (hs : starEach [e] X.env = (false, eval e X.env) :: starEach [] X.env := by rfl) : VE X σ H (.Call (.Name "int" p) [e] [] pos) (.int i) := fun Q k =>
  sE_of (pe_callTy call_int1 hg hm (by decide +kernel) (pa_cons pe_s pa_nil hs) (by decide) (by decide) hs rfl) (ha _ (.inl ⟨i, rfl, k⟩))
/-! statements -/
theorem b_cons {st : Stmt} {rest : List Stmt} {D : Ends} (h : sS X st { D with nx := fun σ' H' => sB X rest D σ' H' } σ H) : sB X (st :: rest) D σ H := sB_of (pss_cons ps_s pb_s) h
theorem b_one {st : Stmt} {D : Ends} (h : sS X st D σ H) : sB X [st] D σ H := sB_of (pss_one ps_s) h
theorem b_nil {D : Ends} (h : D.nx σ H) : sB X [] D σ H := sB_of pss_nil h
theorem s_set (k : Nat) {p' : Pos} {D : Ends} (he : VE X σ H e v) (z : D.nx (σ.set k (some v)) H) (hN : X.N.Nodup) (hi : X.N[k]? = some x := by rfl) (hx : Loc X.env.scope x := by first | exact .inl rfl | exact .inr rfl)
    (hs : swapsWith e (some (.Name x p')) pos.line X.env = pure false := by rfl) (hf : X.fn x = true ∨ X.env.scope.names.lookup x = some .local := by first | exact .inl rfl | exact .inr rfl) : sS X (.Assign [.Name x p'] e pos) D σ H :=
  sS_of (ps_set hN hi hx pe_s hs hf) (he _ z)
theorem s_setE (k : Nat) {p' : Pos} {D : Ends} (he : sE X e σ H fun v H1 => D.nx (σ.set k (some v)) H1) (hN : X.N.Nodup) (hi : X.N[k]? = some x := by rfl) (hx : Loc X.env.scope x := by first | exact .inl rfl | exact .inr rfl)
    (hs : swapsWith e (some (.Name x p')) pos.line X.env = pure false := by rfl) (hf : X.fn x = true ∨ X.env.scope.names.lookup x = some .local := by first | exact .inl rfl | exact .inr rfl) : sS X (.Assign [.Name x p'] e pos) D σ H :=
  sS_of (ps_set hN hi hx pe_s hs hf) he
theorem s_ret {D : Ends} (he : VE X σ H e v) (z : D.rt v H) : sS X (.Return (some e) pos) D σ H := sS_of (ps_ret pe_s) (he _ z)
theorem VE.go {Q : VK} (h : VE X σ H e v) (q : Q v H) : sE X e σ H Q := h Q q
theorem s_if {c : Expr} {t u : List Stmt} {D : Ends} (h : sT X c σ H fun k H1 => if k = true then sB X t D σ H1 else sB X u D σ H1) : sS X (.If c t u pos) D σ H := sS_of (ps_if pt_s pb_s pb_s) h
theorem t_cmp {op : CmpOp} {r : R2} {Q : Bool → Hp → Prop} (ho : OpR X (compareOp op) r) (h : sE X a σ H fun v H1 => sE X b σ H1 fun u H2 => r v u H2 fun z H3 => ∃ k, z = .bl k ∧ Q k H3) (hm : behindInMarks op b = false := by exact nomark _) : sT X (.Compare a [op] [b] pos) σ H Q :=
  sT_of (pt_cmpR ho pe_s pe_s hm) h
theorem s_asg {o i : Expr} {D : Ends} {ps : Pos} (h : sE X e σ H fun v H1 => sE X o σ H1 fun x H2 => sE X i σ H2 fun y H3 => rSetL x y v H3 fun H4 => D.nx σ H4) (hs : swapsWithSole [.Subscript o i ps] e pos.line X.env = pure false := by rfl) (hw : swappedStores [.Subscript o i ps] e X.env = pure none := by rfl)
    (h1 : (assignEach [.Subscript o i ps] X.env).map (·.2) = [assign (.Subscript o i ps) X.env] := by rfl) (ha : ∀ v, assign (.Subscript o i ps) X.env v = (do
      let ov ← holding [v] (eval o X.env)
      let iv ← holding [v, ov] (eval i X.env)
      standAt ps
      holding [v, ov, iv] (setItem ov iv v)
      release [v, ov, iv] []) := by intro _; rfl) : sS X (.Assign [.Subscript o i ps] e pos) D σ H := sS_of (ps_asg pe_s (pg_sub pe_s pe_s set_list ha) hs hw h1) h
theorem e_pop {q : Addr} {xs : List V} {y : V} {Q : VK} {apos : Pos} (ho : VE X σ H e (.ref q)) (hH : H q = some (.lst xs)) (hy : xs[xs.length - 1]? = some y) (k : Q y (upd H q (.lst xs.dropLast)))
    (hbase : attributeBase e "pop" X.env (eval e X.env) = eval e X.env := by rfl) (hline : (apos.endLine == pos.line) = true := by rfl) : sE X (.Call (.Attribute e "pop" apos) [] [] pos) σ H Q :=
  sE_of (pe_bm0 PySem.F.plainAttrs_list PySem.F.slot_list_pop PySem.F.type_list_pop mt_pop pe_s hbase hline) (ho _ ⟨.inl ⟨rfl, _, .inl (.inl hH)⟩, q, xs, y, rfl, rfl, hH, hy, k⟩)
theorem s_expr {D : Ends} (h : sE X e σ H fun _ H1 => D.nx σ H1) (hs : swapsWith e none pos.line X.env = pure false := by rfl) : sS X (.Expr e pos) D σ H := sS_of (ps_expr pe_s hs) h
theorem e_app {q : Addr} {xs : List V} {y : V} {Q : VK} {apos : Pos} {o : Expr} (ho : VE X σ H o (.ref q)) (he : VE X σ H e y) (hH : H q = some (.lst xs)) (hl : xs.length < sizeLine) (k : Q .non (upd H q (.lst (xs ++ [y]))))
    (hbase : attributeBase o "append" X.env (eval o X.env) = eval o X.env := by rfl)
    (hfew : ((backTo pos (starEach [e] X.env)).all (fun x => !x.1) && (backToKw pos (keywordEach [] X.env)).all (fun x => x.1.isSome) && decide (([e] : List Expr).length + ([] : List Keyword).length + (if ([] : List Keyword).isEmpty then 0 else 1) < 30)) = true := by rfl)
    (hline : (apos.endLine == pos.line) = true := by rfl) (hs1 : starEach [e] X.env = (false, eval e X.env) :: starEach [] X.env := by rfl) (hpl : (backTo pos (starEach [] X.env)).any (·.1) = false := by rfl) : sE X (.Call (.Attribute o "append" apos) [e] [] pos) σ H Q :=
  sE_of (pe_bm PySem.F.plainAttrs_list PySem.F.slot_list_append PySem.F.type_list_append mt_append pe_s (pa_cons pe_s pa_nil hs1) hbase hfew hline hs1 hpl) (ho _ ⟨.inl ⟨rfl, _, .inl (.inl hH)⟩, he _ ⟨q, xs, y, rfl, rfl, hH, hl, k⟩⟩)
end
/-! ### a draw -/
theorem natAbs_mul_lt {i j : Int} {a b : Nat} (ha : i.natAbs < 2 ^ a) (hb : j.natAbs < 2 ^ b) : (i * j).natAbs < 2 ^ (a + b) := by
  rw [Int.natAbs_mul, Nat.pow_add]
  exact Nat.mul_lt_mul'' ha hb
theorem mod_post {i : Int} {m : Nat} (hm : 0 < m) : ∃ r : Nat, r < m ∧ V.int (i % (m : Int)) = V.int (r : Nat) := by
  have h1 : 0 ≤ i % (m : Int) := Int.emod_nonneg _ (by omega)
  have h2 : i % (m : Int) < m := Int.emod_lt_of_pos _ (by omega)
  exact ⟨(i % (m : Int)).toNat, by omega, by rw [Int.toNat_of_nonneg h1]⟩
def preD (ds : List PyData) : Prop := ∃ m : Nat, 0 < m ∧ m ≤ 1000000 ∧ ds = [nt m]
def postD (ds : List PyData) (d : PyData) : Prop := ∃ m r : Nat, ds = [nt m] ∧ r < m ∧ d = nt r
section
variable {P : Program} {w : World} {K : PySem.W.Frag} {mg : Str → Option Value} {base : Heap} {f : Addr} {fd : FuncData}
theorem sc_w_draw : FnScope ["_law_spring_here", "_law_many", "_law_great", "_law_cell", "_law_turn", "_law_mixed_here"] ["_law_spring_here", "_law_many"] (defScope s_w_draw) := ⟨rfl, rfl, rfl, by decide +kernel, rfl, by decide +kernel, by decide +kernel⟩
theorem ok_w_draw (F : Fun K "_law_draw" "_law_draw" s_w_draw f fd) (T : Mg mg) : FnOk P w K mg base CX0 1 f fd ["_law_spring_here", "_law_many"] (spS K 1 preD postD) := by
  refine F.ok sc_w_draw (fun vs H Q E ⟨a, g, kn, n, ds, ws, B, e, _, _, ⟨m, _, _, hp⟩, _, _, h3, _⟩ => by rw [e, List.length_cons, dps_len h3, hp]; rfl) (fun cdv A outer s H vs Q E hr h => ?_)
  obtain ⟨a, g, kn, n, ds, ws, B, rfl, sp, hn, ⟨m, hm0, hm1, rfl⟩, own, nb, hws, h4⟩ := h
  obtain ⟨u, rfl, du⟩ := dps_one' hws
  obtain rfl := dp_int du
  obtain ⟨n1, n2, n3, gs, ks, sm, t, e1, e2, e3, l1, l2, l3, l4, l5, l6, l7, l8, l9⟩ := sp
  have fin : ∀ (v : V) (H' : Hp) (gs' : List Int) (t' : Int), (∀ b o, H b = some o → b ≠ a → b ≠ g → b ≠ kn → H' b = some o) → (∀ b, H b ≠ none → H' b ≠ none) → H' a = some (.lst [.ref g, .ref kn, .int sm, .int t']) → H' g = some (.lst (gs'.map V.int)) → H' kn = some (.lst (ks.map V.int)) →
      gs'.length ≤ 64 → (∀ z ∈ gs', 0 ≤ z ∧ z.natAbs < 2 ^ big) → 0 ≤ t' → t' ≤ (n + 1 : Nat) → (∃ r : Nat, r < m ∧ v = V.int (r : Nat)) → Q v H' := fun v H' gs' t' k1 k2 k3 k4 k5 k6 k7 k8 k9 ⟨r, k10, k11⟩ => by
    subst k11
    refine h4 _ H' g kn (nt r) ⟨fun b o z nf => ?_, fun i b z => .inl ⟨i, z⟩, k2⟩ ⟨n1, n2, n3, gs', ks, sm, t', k3, k4, k5, k6, k7, l3, l4, l5, l6, l7, k8, k9⟩ nb (.int _) ⟨m, r, rfl, k10, rfl⟩
    have h0 : b ∉ [a, g, kn] := nf 0
    simp only [List.mem_cons, List.not_mem_nil, or_false, not_or] at h0
    exact k1 b o z h0.1 h0.2.1 h0.2.2
  refine ⟨sB _ (defBody s_w_draw), pb_s, ?_⟩
  generalize hX : (cxOf CX0 P w K mg base _ _ _ f cdv A outer s H E).nox = X
  have hu : X.A.units + 64 < cLine := by rw [← hX]; exact un64 hr
  subst hX
  -- great = spring[0]
  refine b_cons (s_set 2 (ve_ix (ve_var 0 rfl) ve_int (.inl (.inl e1)) rfl) ?_ sc_w_draw.nd)
  -- if great != []
  refine b_cons (s_if (t_cmp (op_neD hu) (VE.go (ve_var 2 rfl) ?_)))
  refine sE_of (pe_lst pa_nil) ⟨by decide, fun q hq => ?_⟩
  have sq : Same H (upd H q (.lst [])) := same_new hq
  have d1 : Dp K (upd H q (.lst [])) (.ref g) (.list (gs.map PyData.int)) := .lst (.inl (.inl (sq _ _ e2))) (dps_ints gs)
  have d2 : Dp K (upd H q (.lst [])) (.ref q) (.list []) := .lst (.inl (.inl upd_same)) .nil
  have sh : SeqAt.shaped (.list (gs.map PyData.int)) = true := by
    have h1 : ∀ l : List Int, PyData.canLayAll0 (l.map PyData.int) = true := by
      intro l
      induction l with
      | nil => rfl
      | cons z l ih => rw [List.map_cons, PyData.canLayAll0, ih]; rfl
    have h2 : ∀ l : List Int, PyData.depthAll (l.map PyData.int) ≤ 1 := by
      intro l
      induction l with
      | nil => simp [PyData.depthAll]
      | cons z l ih =>
        simp only [List.map_cons, PyData.depthAll, PyData.depth] at ih ⊢
        omega
    unfold SeqAt.shaped
    rw [Bool.and_eq_true]
    refine ⟨?_, decide_eq_true ?_⟩
    · rw [PyData.canLay0]
      exact h1 gs
    · have := h2 gs
      rw [PyData.depth]
      omega
  refine ⟨_, _, dp_up _ d1, dp_up _ d2, sh, shaped_ints [], _, rfl, ?_⟩
  have e1' := sq _ _ e1
  have e2' := sq _ _ e2
  have e3' := sq _ _ e3
  have hsame : ∀ b o, H b = some o → (upd H q (.lst [])) b = some o := sq
  generalize upd H q (.lst []) = H1 at e1' e2' e3' hsame
  have htrk : ∀ b, H b ≠ none → H1 b ≠ none := fun b z => by
    cases r : H b with
    | none => exact absurd r z
    | some o => rw [hsame b o r]; simp
  rw [eqv_nil]
  have hm63 : ((m : Nat) : Int) < 1073741824 := by omega
  rcases List.eq_nil_or_concat gs with hg0 | ⟨gs0, z, hgz⟩
  · -- no great cell left
    subst hg0
    refine iteF (b_nil ?_)
    show sB _ _ _ _ _
    refine b_cons (s_asg (VE.go (ve_add (ve_ix (ve_var 0 rfl) ve_int (.inl (.inl e1')) rfl) ve_int) (VE.go (ve_var 0 rfl) (VE.go ve_int ⟨a, _, 3, 3, rfl, rfl, e1', rfl, ?_⟩))))
    have a1 : (upd H1 a (.lst [.ref g, .ref kn, .int sm, .int (t + 1)])) a = some (.lst [.ref g, .ref kn, .int sm, .int (t + 1)]) := upd_same
    have a2 : (upd H1 a (.lst [.ref g, .ref kn, .int sm, .int (t + 1)])) g = some (.lst ([].map V.int)) := by rw [upd_ne (Ne.symm n1)]; exact e2'
    have a3 : (upd H1 a (.lst [.ref g, .ref kn, .int sm, .int (t + 1)])) kn = some (.lst (ks.map V.int)) := by rw [upd_ne (Ne.symm n2)]; exact e3'
    have a4 : ∀ b o, H b = some o → b ≠ a → b ≠ g → b ≠ kn → (upd H1 a (.lst [.ref g, .ref kn, .int sm, .int (t + 1)])) b = some o := fun b o r z1 _ _ => by rw [upd_ne z1]; exact hsame b o r
    have a5 : ∀ b, H b ≠ none → (upd H1 a (.lst [.ref g, .ref kn, .int sm, .int (t + 1)])) b ≠ none := fun b r => by
      by_cases z1 : b = a
      · subst z1; rw [a1]; simp
      · rw [upd_ne z1]; exact htrk b r
    show sB _ _ _ _ (upd H1 a (.lst [.ref g, .ref kn, .int sm, .int (t + 1)]))
    generalize upd H1 a (.lst [.ref g, .ref kn, .int sm, .int (t + 1)]) = H2 at a1 a2 a3 a4 a5
    refine b_cons (s_set 4 (ve_ix (ve_var 0 rfl) ve_int (.inl (.inl a1)) rfl) ?_ sc_w_draw.nd)
    have hkl : (0 : Int) < ((ks.map V.int).length : Nat) := by rw [List.length_map]; omega
    obtain ⟨c, hc, hcm⟩ : ∃ c, atI (ks.map V.int) ((t + 1) % ((ks.map V.int).length : Nat)) = some (V.int c) ∧ c ∈ ks := by
      have q1 := Int.emod_nonneg (t + 1) (show ((ks.map V.int).length : Int) ≠ 0 by omega)
      have q2 := Int.emod_lt_of_pos (t + 1) hkl
      obtain ⟨r, hr⟩ : ∃ r : Nat, (t + 1) % ((ks.map V.int).length : Nat) = (r : Nat) := ⟨_, (Int.toNat_of_nonneg q1).symm⟩
      rw [hr] at q2 ⊢
      have hrl : r < ks.length := by
        rw [List.length_map] at q2
        omega
      refine ⟨ks[r], ?_, List.getElem_mem hrl⟩
      unfold atI ixN
      rw [if_pos (by omega), if_pos (by rw [List.length_map]; omega)]
      simp [hrl]
    have hcb := l5 c hcm
    refine b_cons (s_set 3 (ve_ix (ve_ix (ve_var 0 rfl) ve_int (.inl (.inl a1)) rfl) (ve_mod (ve_int1 T.int (ve_var 4 rfl)) (ve_len T.len (ve_ix (ve_var 0 rfl) ve_int (.inl (.inl a1)) rfl) (.inl (.inl a3))) hkl) (.inl (.inl a3)) hc) ?_ sc_w_draw.nd)
    have ht : (t + 1).natAbs < 2 ^ 31 := by
      have : many = 1000000000 := rfl
      have : (2 : Nat) ^ 31 = 2147483648 := by decide
      omega
    refine b_cons (s_set 5 (ve_mod (ve_int1 T.int (ve_add (ve_add (ve_mul (ve_var 3 rfl) ve_int (mulx_ok (b := 16) hcb.2 (by decide) (by decide)))
      (ve_mul (ve_ix (ve_var 0 rfl) ve_int (.inl (.inl a1)) rfl) ve_int (mulx_ok (b := 13) l7 (by decide) (by decide)))) (ve_mul (ve_var 4 rfl) ve_int (mulx_ok (b := 21) ht (by decide) (by decide))))) ve_int (by decide)) ?_ sc_w_draw.nd)
    have bnd : ∀ (y j : Int), 0 < j → j.natAbs < 2 ^ 31 → (y % j).natAbs < 2 ^ 31 := fun y j h1 h2 => by
      have q1 := Int.emod_nonneg y (show j ≠ 0 by omega)
      have q2 := Int.emod_lt_of_pos y h1
      omega
    refine b_cons (s_set 5 (ve_mod (ve_int1 T.int (ve_add (ve_add (ve_mul (ve_var 5 rfl) (ve_var 5 rfl) (mulx_ok (bnd _ _ (by decide) (by decide)) (bnd _ _ (by decide) (by decide)) (by decide)))
      (ve_mul (ve_var 4 rfl) ve_int (mulx_ok (b := 24) ht (by decide) (by decide)))) ve_int)) ve_int (by decide)) ?_ sc_w_draw.nd)
    refine b_cons (s_set 5 (ve_mod (ve_int1 T.int (ve_add (ve_add (ve_mul (ve_var 5 rfl) (ve_var 5 rfl) (mulx_ok (bnd _ _ (by decide) (by decide)) (bnd _ _ (by decide) (by decide)) (by decide)))
      (ve_var 3 rfl)) ve_int)) ve_int (by decide)) ?_ sc_w_draw.nd)
    refine b_one (s_ret (ve_mod (ve_int1 T.int (ve_fdiv (ve_var 5 rfl) ve_int (by decide) (by decide))) (ve_var 1 rfl) (by omega)) ?_)
    exact fin _ H2 [] (t + 1) a4 a5 a1 a2 a3 (Nat.zero_le _) (fun z hz => nomatch hz) (by omega) (by omega) (mod_post hm0)
  · subst hgz
    have hgm : (gs0 ++ [z]).map V.int = gs0.map V.int ++ [V.int z] := by rw [List.map_append] <;> rfl
    rw [List.concat_eq_append] at e2' l1 l2 ⊢
    rw [hgm] at e2'
    have hz := l2 z (by simp)
    have hne : (!((gs0 ++ [z]).map PyData.int).isEmpty) = true := by simp
    rw [hne]
    refine iteT ?_
    have hlast : (gs0.map V.int ++ [V.int z])[(gs0.map V.int ++ [V.int z]).length - 1]? = some (V.int z) := by simp
    refine b_cons (s_setE 3 (e_pop (ve_var 2 rfl) e2' hlast ?_) sc_w_draw.nd)
    rw [List.dropLast_concat]
    have a1 : (upd H1 g (.lst (gs0.map V.int))) g = some (.lst (gs0.map V.int)) := upd_same
    have a2 : ∀ b, b ≠ g → (upd H1 g (.lst (gs0.map V.int))) b = H1 b := fun b z1 => upd_ne z1
    generalize upd H1 g (.lst (gs0.map V.int)) = H2 at a1 a2
    show sB _ _ _ _ H2
    rw [List.length_append, List.length_singleton] at l1
    have ret : ∀ (H3 : Hp) (gs' : List Int), (∀ b, b ≠ g → H3 b = H1 b) → H3 g = some (.lst (gs'.map V.int)) → gs'.length ≤ 64 → (∀ y ∈ gs', 0 ≤ y ∧ y.natAbs < 2 ^ big) → ∀ v, (∃ r : Nat, r < m ∧ v = V.int (r : Nat)) → Q v H3 := fun H3 gs' k1 k2 k3 k4 v k5 => by
      refine fin v H3 gs' t (fun b o r z1 z2 z3 => by rw [k1 b z2]; exact hsame b o r) (fun b r => ?_) (by rw [k1 a n1]; exact e1') k2 (by rw [k1 kn (Ne.symm n3)]; exact e3') k3 k4 l8 (by omega) k5
      by_cases z1 : b = g
      · subst z1; rw [k2]; simp
      · rw [k1 b z1]; exact htrk b r
    refine b_cons (s_if (t_cmp op_ge (VE.go (ve_var 3 rfl) (VE.go (ve_var 1 rfl) ⟨z, (m : Nat), rfl, rfl, _, rfl, ?_⟩))))
    by_cases hc : ((m : Nat) : Int) ≤ z
    · rw [decide_eq_true hc]
      refine iteT (b_one (s_expr (e_app (ve_var 2 rfl) (ve_fdiv (ve_var 3 rfl) (ve_var 1 rfl) (by omega) hm63) a1 ?_ ?_)))
      · rw [List.length_map]
        exact Nat.lt_of_lt_of_le (show gs0.length < 64 by omega) (by decide)
      · refine b_one (s_ret (ve_mod (ve_int1 T.int (ve_var 3 rfl)) (ve_var 1 rfl) (by omega)) ?_)
        refine ret _ (gs0 ++ [z / (m : Nat)]) (fun b z1 => by rw [upd_ne z1]; exact a2 b z1) (by rw [List.map_append]; exact upd_same) (by rw [List.length_append, List.length_singleton]; omega) (fun y hy => ?_) _ (mod_post hm0)
        rcases List.mem_append.mp hy with hy | hy
        · exact l2 y (by simp [hy])
        · rw [show y = z / (m : Nat) by simpa using hy]
          refine ⟨Int.ediv_nonneg hz.1 (by omega), Nat.lt_of_le_of_lt ?_ hz.2⟩
          have := Int.ediv_le_self (m : Nat) hz.1
          have := Int.ediv_nonneg hz.1 (show (0 : Int) ≤ (m : Nat) by omega)
          omega
    · rw [decide_eq_false hc]
      refine iteF (b_nil ?_)
      refine b_one (s_ret (ve_mod (ve_int1 T.int (ve_var 3 rfl)) (ve_var 1 rfl) (by omega)) ?_)
      exact ret _ gs0 a2 a1 (by omega) (fun y hy => l2 y (by simp [hy])) _ (mod_post hm0)
end
end Mt

set_option maxHeartbeats 2000000
namespace Mt
open PySem PySem.Spec PyProof.Rows L2
/-! ### the spring is made -/
def spNew (K : PySem.W.Frag) : Sp := fun vs H Q _ => ∃ (B : Addr → Prop) (zs : List Int), (∀ z ∈ zs, z.natAbs < 2 ^ 1048576) ∧ (∀ b, B b → H b ≠ none) ∧ DpAll K (hid B H) vs [.list (zs.map PyData.int)] ∧
  ∀ a g kn H', Same H H' → H a = none → H g = none → H kn = none → Spr H' a g kn 0 → Q (.ref a) H'
def cell (c : Int) : Int := 2 * (if c < 0 then -c else c) + (if decide (c < 0) = true then 1 else 0)
theorem cell_ok {c : Int} {k : Nat} (h : c.natAbs < 2 ^ k) : 0 ≤ cell c ∧ (cell c).natAbs < 2 ^ (k + 1) := by
  have e : 2 ^ (k + 1) = 2 * 2 ^ k := by rw [Nat.pow_succ]; omega
  rw [e]
  generalize 2 ^ k = m at h
  unfold cell
  by_cases hc : c < 0
  · simp only [hc, decide_true, if_true]
    omega
  · simp only [hc, decide_false, if_false]
    simp
    omega
theorem sum_ok {N : Nat} : ∀ l : List Int, (∀ z ∈ l, 0 ≤ z ∧ z.natAbs < N) → 0 ≤ l.sum ∧ l.sum.natAbs ≤ l.length * N
  | [], _ => by simp
  | z :: l, h => by
    have h1 := sum_ok l fun y hy => h y (List.mem_cons_of_mem _ hy)
    have h2 := h z List.mem_cons_self
    rw [List.sum_cons, List.length_cons, Nat.succ_mul]
    omega
theorem use_f {X : Cx} {e : Expr} {Γ : Gm} {ds : List PyData} {B : Addr → Prop} {F : Nat → List Addr} {σ : L2.St} {H : Hp} {Q : VK} (g : GOk X.K B F H σ Γ) (h : EvF X e Γ ds) (k : ∀ a vs H', Same H H' → H a = none → H' a = some (.lst vs) → DpAll X.K (hid (hd (also a B) F) H') vs ds → Q (.ref a) H') : sE X e σ H Q := h B F σ H Q g k
theorem use_p {X : Cx} {e : Expr} {Γ : Gm} {d : PyData} {B : Addr → Prop} {F : Nat → List Addr} {σ : L2.St} {H : Hp} {Q : VK} (g : GOk X.K B F H σ Γ) (h : EvP X e Γ d) (k : ∀ v H', Same H H' → Dp X.K (hid (hd B F) H') v d → Q v H') : sE X e σ H Q := h B F σ H Q g k
theorem use_1 {X : Cx} {st : Stmt} {Γ : Gm} {O : Out} {B : Addr → Prop} {F : Nat → List Addr} {σ : L2.St} {H : Hp} {D : Ends} (g : GOk X.K B F H σ Γ) (h : E1 X st Γ O) (w : Wants X.K B F H O D) : sS X st D σ H := h B F σ H D g w
section
variable {P : Program} {w : World} {K : PySem.W.Frag} {mg : Str → Option Value} {base : Heap} {f : Addr} {fd : FuncData}
theorem sc_w_spring : FnScope ["_law_script", "_law_known", "_law_cell"] ["_law_script"] (defScope s_w_spring) := ⟨rfl, rfl, rfl, by decide +kernel, rfl, by decide +kernel, by decide +kernel⟩
theorem ok_w_spring (F : Fun K "_law_spring" "_law_spring" s_w_spring f fd) (T : Mg mg) : FnOk P w K mg base CX0 1 f fd ["_law_script"] (spNew K) := by
  refine F.ok sc_w_spring (fun vs H Q E ⟨B, zs, _, _, h3, _⟩ => by rw [dps_len h3]; rfl) (fun cdv A outer s H vs Q E hr h => ?_)
  obtain ⟨B, zs, hz, own, hvs, k⟩ := h
  refine ⟨sB _ (defBody s_w_spring), pb_s, ?_⟩
  have hk : ∀ z ∈ (zs.take 63).map cell, 0 ≤ z ∧ z.natAbs < 2 ^ big := fun z hm => by
    obtain ⟨c, hc, rfl⟩ := List.mem_map.mp hm
    have := cell_ok (hz c (List.mem_of_mem_take hc))
    exact ⟨this.1, Nat.lt_of_lt_of_le this.2 (Nat.pow_le_pow_right (by decide) (by decide))⟩
  have hkl : ((zs.take 63).map cell).length ≤ 63 := by rw [List.length_map, List.length_take]; omega
  generalize hkn : (zs.take 63).map cell = ks at hk hkl
  have g0 := gok_start (N := ["_law_script", "_law_known", "_law_cell"]) own hvs
  refine b_cons (use_1 (O := { N := fun Γ => Γ = [some (.d (.list (zs.map PyData.int))), some (.d (.list (ks.map PyData.int))), none], R := fun _ _ => False }) g0 ?_ ⟨fun F' σ' H' Γ' s' g' e => ?_, fun _ _ _ _ _ _ _ _ _ q => q.elim, fun _ _ _ _ _ _ q => q.elim, fun _ _ _ _ _ _ q => q.elim⟩)
  · refine e1_setC1 sc_w_spring 1 (lc1n 2 (zs.take 63) PyData.int (fun c => .int (cell c)) (evi_list ?_) (by rw [List.length_take]; omega) (fun _ _ _ _ _ c hc =>
      evp_bin0 op_add (evp_bin op_mulX (mulx_ok (a := 2) (b := 1048576) (by decide) ?_ (by decide)) evp_int (evp_abs T.abs (evp_var 2))) (evp_intB T.int (evp_cmp op_lt (evp_var 2) evp_int)))) ?_
    · rw [List.map_take]
      exact evf_p (evf_slHi (n := 63) (evp_var 0) evp_int)
    · have := hz c (List.mem_of_mem_take hc)
      generalize 2 ^ 1048576 = m at this
      split <;> omega
    · rw [← hkn, List.map_map]
      rfl
  have e : Γ' = [some (.d (.list (zs.map PyData.int))), some (.d (.list (ks.map PyData.int))), none] := e
  subst e
  have sm : Same H H' := fun b o q => s'.keep b o q fun i z => (nomatch z)
  refine b_one (sS_of (ps_ret (pe_lst (pa_cons pe_s (pa_cons pe_s (pa_cons pe_s (pa_cons pe_s pa_nil)))))) ?_)
  show sE _ _ _ _ _
  refine use_f g' (ds := (ks.filter fun c => decide ((10 : Int) ^ (18 : Int).toNat ≤ c)).map PyData.int) ?_ fun ag vs1 H1 s1 n1 h1 q1 => ?_
  · exact evf_c1 sc_w_spring (lc1 2 ks PyData.int (fun c => decide ((10 : Int) ^ (18 : Int).toNat ≤ c)) PyData.int (evi_list (evp_var 1)) (by omega)
      (fun _ _ _ _ _ c _ => evc_one (evt_cmp op_ge (evp_var 2) (evp_bin op_pow ⟨by decide, by decide, by decide⟩ evp_int evp_int))) (fun _ _ _ _ _ c _ _ => evp_var 2))
  refine use_f (g'.grow s1) (ds := ks.map PyData.int ++ [.int (((ks.map PyData.int).length : Nat) + 41)]) ?_ fun ak vs2 H2 s2 n2 h2 q2 => ?_
  · exact evf_cat (evp_var 1) (evf_p (evf_lst (eva_1 (evp_bin0 op_add (evp_lenL T.len (evp_var 1)) evp_int)))) (by rw [List.length_map]; exact Nat.le_trans (show ks.length + 1 ≤ 64 by omega) (by decide))
  refine use_p ((g'.grow s1).grow s2) (d := .int ks.sum) ?_ fun v3 H3 s3 q3 => ?_
  · exact evp_sum rfl T.sum (evp_var 1)
  refine sE_of pe_int ⟨(show 4 ≤ sizeLine by decide), fun p hp => ?_⟩
  rw [dp_int q3]
  rw [dps_ints' q1] at h1
  have q2' : DpAll K (hid (hd (also ak B) F') H2) vs2 ((ks ++ [(((ks.map PyData.int).length : Nat) : Int) + 41]).map PyData.int) := by rw [List.map_append]; exact q2
  rw [dps_ints' q2'] at h2
  have f1 : H1 ak = none → H' ak = none := fun z => by
    cases r : H' ak with
    | none => rfl
    | some o => rw [s1 _ _ r] at z; cases z
  have ng : H ag = none := by
    cases r : H ag with
    | none => rfl
    | some o => rw [sm _ _ r] at n1; cases n1
  have nk : H ak = none := by
    cases r : H ak with
    | none => rfl
    | some o => rw [sm _ _ r] at f1; exact nomatch f1 n2
  have np : H p = none := by
    cases r : H p with
    | none => rfl
    | some o => rw [s3 _ _ (s2 _ _ (s1 _ _ (sm _ _ r)))] at hp; cases hp
  have e1 : H3 ag = some (.lst ((ks.filter fun c => decide ((10 : Int) ^ (18 : Int).toNat ≤ c)).map V.int)) := s3 _ _ (s2 _ _ h1)
  have e2 := s3 _ _ h2
  have d1 : p ≠ ag := fun z => by rw [z, e1] at hp; cases hp
  have d2 : p ≠ ak := fun z => by rw [z, e2] at hp; cases hp
  have d3 : ag ≠ ak := fun z => by rw [← z, h1] at n2; cases n2
  have hs := sum_ok ks hk
  have nodr : ∀ c ∈ ks ++ [(((ks.map PyData.int).length : Nat) : Int) + 41], 0 ≤ c ∧ c.natAbs < 2 ^ big := fun c hc => by
    rcases List.mem_append.mp hc with hc | hc
    · exact hk c hc
    · rw [show c = (((ks.map PyData.int).length : Nat) : Int) + 41 by simpa using hc, List.length_map]
      refine ⟨by omega, Nat.lt_of_lt_of_le (show _ < 2 ^ 7 by omega) (Nat.pow_le_pow_right (by decide) (by decide))⟩
  refine k p ag ak _ (fun b o r => ?_) np ng nk ⟨d1, d2, d3, ks.filter fun c => decide ((10 : Int) ^ (18 : Int).toNat ≤ c), ks ++ [(((ks.map PyData.int).length : Nat) : Int) + 41], ks.sum, 0, upd_same, ?_, ?_, ?_, ?_, ?_, ?_, nodr, hs.1, ?_, by omega, by omega⟩
  · have z := s3 _ _ (s2 _ _ (s1 _ _ (sm _ _ r)))
    rw [upd_ne (ne_of_none z hp)]
    exact z
  · rw [upd_ne (Ne.symm d1)]
    exact e1
  · rw [upd_ne (Ne.symm d2)]
    exact e2
  · exact Nat.le_trans (List.length_filter_le ..) (by omega)
  · exact fun z hm => hk z (List.mem_filter.mp hm).1
  · rw [List.length_append, List.length_singleton]; omega
  · rw [List.length_append, List.length_singleton]; omega
  · refine Nat.lt_of_le_of_lt hs.2 ?_
    have e : 2 ^ (big + 100) = 2 ^ big * 2 ^ 100 := Nat.pow_add ..
    rw [e]
    have hp : 0 < 2 ^ big := Nat.two_pow_pos _
    generalize 2 ^ big = m at hp
    rw [Nat.mul_comm]
    exact Nat.mul_lt_mul_of_pos_left (Nat.lt_of_le_of_lt hkl (by decide)) hp
end
end Mt

set_option maxHeartbeats 2000000
namespace Mt
open PySem PySem.Spec PyProof.Rows L2
/-! ### data without lists -/
mutual
def noL : PyData → Bool
  | .none => true
  | .bool _ => true
  | .int _ => true
  | .str _ => true
  | .tuple ds => noLs ds
  | .list _ => false
  | .dict _ => false
def noLs : List PyData → Bool
  | [] => true
  | d :: ds => noL d && noLs ds
end
mutual
theorem dp_noL {K : PySem.W.Frag} {S S' : Hp} (hs : ∀ (b : Addr) (xs : List V), S b = some (.tup xs) → S' b = some (.tup xs)) : ∀ (d : PyData) {v : V}, noL d = true → Dp K S v d → Dp K S' v d
  | .none, _, _, h => by cases h; exact .non
  | .bool b, _, _, h => by cases h; exact .bl b
  | .int i, _, _, h => by cases h; exact .int i
  | .str x, _, _, h => by cases h; exact .str x
  | .list ds, _, n, h => by simp [noL] at n
  | .tuple ds, _, n, h => by
    cases h with
    | tup h1 h2 =>
      rw [noL] at n
      exact .tup (.of (hs _ _ h1.eq)) (dps_noL hs ds n h2)
  | .dict _, _, _, h => by cases h
theorem dps_noL {K : PySem.W.Frag} {S S' : Hp} (hs : ∀ (b : Addr) (xs : List V), S b = some (.tup xs) → S' b = some (.tup xs)) : ∀ (ds : List PyData) {vs : List V}, noLs ds = true → DpAll K S vs ds → DpAll K S' vs ds
  | [], _, _, h => by cases h; exact .nil
  | d :: ds, _, n, h => by
    cases h with
    | cons h1 h2 =>
      rw [noLs, Bool.and_eq_true] at n
      exact .cons (dp_noL hs d n.1 h1) (dps_noL hs ds n.2 h2)
end
def entNL : Option Ent → Bool
  | none => true
  | some (.d x) => noL x
  | some (.l xs) => noLs xs
  | some (.s _ _) => true
  | some (.k _) => false
  | some (.m _) => false
section
variable {K : PySem.W.Frag} {B : Addr → Prop} {F F' : Nat → List Addr} {H H' : Hp} {σ : L2.St} {Γ Γ' : Gm}
/-- a list that was looked at is its name's own again -/
theorem GOk.thaw {i : Nat} {xs : List PyData} {l : Addr} {vs : List V} (g' : GOk K B F' H' σ Γ') (hσ : σ[i]? = some (some (.ref l))) (hi : i < Γ'.length) (hn : nOwn Γ' i = true) (hl : H' l = some (.lst vs)) (nB : ¬ B l) (nF : ∀ k, l ∉ F' k) (hxs : DpAll K (hid (hd B F') H') vs xs) (nx : noLs xs = true)
    (hΓ : ∀ (k : Nat) e, k ≠ i → Γ'[k]? = some e → entNL e = true) : GOk K B (upF F' i [l]) H' σ (Γ'.set i (some (.l xs))) := by
  have tup : ∀ (b : Addr) (ys : List V), hid (hd B F') H' b = some (.tup ys) → hid (hd B (upF F' i [l])) H' b = some (.tup ys) := fun b ys z => by
    have key : ∀ o, o ≠ .lst vs → hid (hd B F') H' b = some o → hid (hd B (upF F' i [l])) H' b = some o := fun o ho z => by
      obtain ⟨z1, z2⟩ := hid_iff.mp z
      refine hid_iff.mpr ⟨fun w => ?_, z2⟩
      rcases w with w | ⟨k, w⟩
      · exact z1 (.inl w)
      · rcases upF_mem w with ⟨_, w⟩ | ⟨_, w⟩
        · rw [show b = l by simpa using w, hl] at z2
          exact ho (Option.some.inj z2).symm
        · exact z1 (.inr ⟨k, w⟩)
    exact key _ (by intro w; cases w) z
  refine ⟨by rw [List.length_set]; exact g'.ls, fun j k b z1 z2 => ?_, fun k b z => ?_, fun b z => ?_, fun k e z => ?_, fun k z => ?_⟩
  · rcases upF_mem z1 with ⟨j1, z1⟩ | ⟨j1, z1⟩
    · rcases upF_mem z2 with ⟨k1, z2⟩ | ⟨k1, z2⟩
      · rw [j1, k1]
      · rw [show b = l by simpa using z1] at z2
        exact absurd z2 (nF k)
    · rcases upF_mem z2 with ⟨k1, z2⟩ | ⟨k1, z2⟩
      · rw [show b = l by simpa using z2] at z1
        exact absurd z1 (nF j)
      · exact g'.dj j k b z1 z2
  · rcases upF_mem z with ⟨_, z⟩ | ⟨_, z⟩
    · rw [show b = l by simpa using z]
      exact nB
    · exact g'.out k b z
  · rcases z with z | ⟨k, z⟩
    · exact g'.own b (.inl z)
    · rcases upF_mem z with ⟨_, z⟩ | ⟨_, z⟩
      · rw [show b = l by simpa using z, hl]
        simp
      · exact g'.own b (.inr ⟨k, z⟩)
  · by_cases hk : i = k
    · subst hk
      rw [List.getElem?_set_self hi] at z
      cases z
      exact ⟨.ref l, hσ, l, vs, rfl, upF_same, hl, dps_noL tup xs nx hxs⟩
    · rw [List.getElem?_set_ne hk] at z
      obtain ⟨v, h1, h2⟩ := g'.ent k e z
      refine ⟨v, h1, ?_⟩
      rw [upF_ne (Ne.symm hk)]
      have hnl := hΓ k _ (Ne.symm hk) z
      cases e with
      | d x => exact dp_noL tup x hnl h2
      | l ys =>
        obtain ⟨a, ws, e1, e2, e3, e4⟩ := h2
        exact ⟨a, ws, e1, e2, e3, dps_noL tup ys hnl e4⟩
      | s a n => exact h2
      | k ps => cases hnl
      | m ps => cases hnl
  · by_cases hk : i = k
    · subst hk
      unfold nOwn at z
      rw [List.getElem?_set_self hi] at z
      cases z
    · rw [nOwn_ne hk] at z
      rw [upF_ne (Ne.symm hk)]
      exact g'.nil k z
end
/-- an expression that draws, and looks at a list of one's own: the list is one's own again behind it -/
theorem ev_frzE {X : Cx} {e : Expr} {Γ : Gm} {P : PyData → Gm → Prop} {xs : List PyData} (i : Nat) (hi : Γ[i]? = some (some (.l xs))) (nx : noLs xs = true)
    (h : Ev X e (Γ.set i (some (.d (.list xs)))) fun d Γ' => noL d = true ∧ Γ'[i]? = some (some (.d (.list xs))) ∧ (∀ (k : Nat) e, k ≠ i → Γ'[k]? = some e → entNL e = true) ∧ P d (Γ'.set i (some (.l xs)))) : Ev X e Γ P := fun B F σ H Q g q => by
  obtain ⟨v0, h1, a, vs, rfl, h2, h3, h4⟩ := g.ent i _ hi
  refine h B _ σ H _ (g.freeze hi) fun v H' F' Γ' d s g' dv ⟨nd, hi', hΓ, z⟩ => ?_
  have nf : ∀ k, a ∉ upF F i [] k := fun k z => by
    rcases upF_mem z with ⟨_, z⟩ | ⟨hk, z⟩
    · cases z
    · exact hk (g.dj k i a z (by rw [h2]; simp))
  have ha : H' a = some (.lst vs) := s.keep a _ h3 nf
  have nB : ¬ B a := g.out i a (by rw [h2]; simp)
  have nF : ∀ k, a ∉ F' k := fun k z => by
    rcases s.new k a z with ⟨j, w⟩ | w
    · exact nf j w
    · rw [h3] at w; cases w
  have hil := (List.getElem?_eq_some_iff.mp hi').1
  have hno : nOwn Γ' i = true := by unfold nOwn; rw [hi']
  have hxs : DpAll X.K (hid (hd B F') H') vs xs := by
    have st : Same (hid (hd B (upF F i [])) H) (hid (hd B F') H') := s.stab
    exact dps_mono st _ (dps_mono (Step.stab step_drop) _ h4)
  have gt := g'.thaw h1 hil hno ha nB nF hxs nx hΓ
  refine q v H' _ _ d ⟨fun b o r n => ?_, fun k b r => ?_, s.trk⟩ gt (dp_noL (fun b ys z => ?_) d nd dv) z
  · exact s.keep b o r fun k w => by
      rcases upF_mem w with ⟨_, w⟩ | ⟨_, w⟩
      · cases w
      · exact n k w
  · rcases upF_mem r with ⟨_, r⟩ | ⟨_, r⟩
    · exact .inl ⟨i, by rw [h2]; exact r⟩
    · rcases s.new k b r with ⟨j, w⟩ | w
      · rcases upF_mem w with ⟨_, w⟩ | ⟨_, w⟩
        · cases w
        · exact .inl ⟨j, w⟩
      · exact .inr w
  · have key : ∀ o, o ≠ .lst vs → hid (hd B F') H' b = some o → hid (hd B (upF F' i [a])) H' b = some o := fun o ho z => by
      obtain ⟨z1, z2⟩ := hid_iff.mp z
      refine hid_iff.mpr ⟨fun w => ?_, z2⟩
      rcases w with w | ⟨k, w⟩
      · exact z1 (.inl w)
      · rcases upF_mem w with ⟨_, w⟩ | ⟨_, w⟩
        · rw [show b = a by simpa using w, ha] at z2
          exact ho (Option.some.inj z2).symm
        · exact z1 (.inr ⟨k, w⟩)
    exact key _ (by intro w; cases w) z
/-! ### pick -/
def preP (ds : List PyData) : Prop := ∃ xs : List PyData, xs ≠ [] ∧ xs.length ≤ 1000000 ∧ ds = [.list xs]
def postP (ds : List PyData) (d : PyData) : Prop := ∃ xs : List PyData, ds = [.list xs] ∧ d ∈ xs
theorem atI_nat {xs : List PyData} {r : Nat} (h : r < xs.length) : atI xs ((r : Nat) : Int) = some xs[r] := by
  unfold atI ixN
  rw [if_pos (by omega), if_pos (by omega)]
  simp [h]
section
variable {P : Program} {w : World} {K : PySem.W.Frag} {mg : Str → Option Value} {base : Heap} {f : Addr} {fd : FuncData}
theorem sc_w_pick : FnScope ["_law_spring_here", "_law_items"] ["_law_spring_here", "_law_items"] (defScope s_w_pick) := ⟨rfl, rfl, rfl, by decide +kernel, rfl, by decide +kernel, by decide +kernel⟩
theorem ok_w_pick (F : Fun K "_law_pick" "_law_pick" s_w_pick f fd) (T : Mg mg) (Fd : FnP P w K mg base 1 "_law_draw" ["_law_spring_here", "_law_many"] (spS K 1 preD postD)) : FnOk P w K mg base CX0 2 f fd ["_law_spring_here", "_law_items"] (spS K 1 preP postP) := by
  refine fun_spr F sc_w_pick (fun ds ⟨xs, _, _, e⟩ => by rw [e]; rfl) (fun cdv A outer s H E hr a n ds hn ⟨xs, hx, hl, e1⟩ => ?_)
  subst e1
  have hpos : 0 < xs.length := by
    cases xs with
    | nil => exact absurd rfl hx
    | cons _ _ => exact Nat.succ_pos _
  refine ex_one (e1_ret (ev_ixL (ev_p (evp_var 1) (ev_callS Fd hr 0 rfl (evae_p (eva_1 (evp_lenL T.len (evp_var 1))) ⟨n, rfl, hn, ⟨xs.length, hpos, hl, rfl⟩, fun d ⟨m, r, e1, hr, e2⟩ => ?_⟩)))))
  have hm : xs.length = m := by
    have : (PyData.int ((xs.length : Nat) : Int)) = nt m := by simpa using e1
    have := PyData.int.inj this
    omega
  subst hm
  exact ⟨xs, (r : Nat), xs[r], rfl, e2, atI_nat hr, ⟨n + 1, Nat.le_refl _, rfl⟩, xs, rfl, List.getElem_mem hr⟩
end
end Mt

set_option maxHeartbeats 2000000
namespace Mt
open PySem PySem.Spec PyProof.Rows L2
section
variable {X : Cx} {a b c e tg iter elt : Expr} {es ifs : List Expr} {st : Stmt} {sts rest body : List Stmt} {Γ : Gm} {d : PyData} {ds ds1 ds2 : List PyData} {pos p p2 : Pos} {x y : Str} {O : Out} {P : PyData → Gm → Prop} {m n kk : Nat}
/-- x, y = a, b: both new lists, each its name's own -/
theorem e1_parFF {i j : Nat} {px py pt : Pos} {kt k2 : Nat} {pt2 : Pos} (h1 : EvF X a Γ ds1) (h2 : EvF X b Γ ds2) (hil : i < Γ.length) (hjl : j < Γ.length) (z : O.N ((Γ.set i (some (.l ds1))).set j (some (.l ds2)))) (hij : i ≠ j) (hc : X.calm = true) (hN : X.N.Nodup)
    (hw : swappedStores [.Tuple [.Name x px, .Name y py] kt pt] (.Tuple [a, b] k2 pt2) X.env = pure (some [x, y]))
    (hi : X.N[i]? = some x := by rfl) (hj : X.N[j]? = some y := by rfl) (hx : X.env.scope.names.lookup x = some .local := by rfl) (hy : X.env.scope.names.lookup y = some .local := by rfl)
    (hs : swapsWithSole [.Tuple [.Name x px, .Name y py] kt pt] (.Tuple [a, b] k2 pt2) pos.line X.env = pure false := by rfl)
    (hs1 : starEach [a, b] X.env = (false, eval a X.env) :: starEach [b] X.env := by rfl) (hs2 : starEach [b] X.env = (false, eval b X.env) :: starEach [] X.env := by rfl) :
    E1 X (.Assign [.Tuple [.Name x px, .Name y py] kt pt] (.Tuple [a, b] k2 pt2) pos) Γ O := fun B F σ H D g w =>
  sS_of (ps_par hc hN hi hj hij hx hy pa_s hw hs) (sA_of (pa_cons pe_s (pa_cons pe_s pa_nil hs2) hs1) (h1 B F σ H _ g fun l1 vs1 H1 s1 n1 e1 q1 => by
    have g1 : GOk X.K (also l1 B) F H1 σ Γ := g.cover s1 n1 (by rw [e1]; simp)
    refine h2 (also l1 B) F σ H1 _ g1 fun l2 vs2 H2 s2 n2 e2 q2 => ?_
    have g2 : GOk X.K (also l2 (also l1 B)) F H2 σ Γ := g1.cover s2 n2 (by rw [e2]; simp)
    have q1' : DpAll X.K (hid (hd (also l2 (also l1 B)) F) H2) vs1 ds1 := dps_mono (fun b o z => by
      obtain ⟨z1, z2⟩ := hid_iff.mp z
      refine hid_iff.mpr ⟨fun w => ?_, s2 b o z2⟩
      rcases w with (w | w) | w
      · rw [w, n2] at z2; cases z2
      · exact z1 (.inl w)
      · exact z1 (.inr w)) _ q1
    have nB2 : ¬ also l1 B l2 := fun z => by
      rcases z with z | z
      · rw [z, e1] at n2; cases n2
      · exact g1.own l2 (.inl (.inr z)) n2
    have g3 := g2.setL j hjl nB2 e2 q2
    have q3 : DpAll X.K (hid (hd (also l1 B) (upF F j [l2])) H2) vs1 ds1 := dps_mono (fun b o z => by
      obtain ⟨z1, z2⟩ := hid_iff.mp z
      refine hid_iff.mpr ⟨fun w => ?_, z2⟩
      rcases w with w | ⟨k, w⟩
      · exact z1 (.inl (.inr w))
      · rcases upF_mem w with ⟨_, w⟩ | ⟨_, w⟩
        · exact z1 (.inl (.inl (by simpa using w)))
        · exact z1 (.inr ⟨k, w⟩)) _ q1'
    have e1' := s2 _ _ e1
    have nB1 : ¬ B l1 := fun z => g.own l1 (.inl z) n1
    have g4 := g3.setL i (by rw [List.length_set]; exact hil) nB1 e1' q3
    rw [List.set_comm _ _ (Ne.symm hij), List.set_comm _ _ (Ne.symm hij)] at g4
    refine ⟨_, _, rfl, w.nx _ _ H2 _ ⟨fun b o h _ => s2 b o (s1 b o h), fun k b h => ?_, fun b h => ?_⟩ g4 z⟩
    · rcases upF_mem h with ⟨_, z⟩ | ⟨_, z⟩
      · refine .inr ?_
        rw [show b = l1 by simpa using z]
        exact n1
      · rcases upF_mem z with ⟨_, z⟩ | ⟨_, z⟩
        · refine .inr ?_
          rw [show b = l2 by simpa using z]
          exact s1.free n2
        · exact .inl ⟨k, z⟩
    · cases r : H b with
      | none => exact absurd r h
      | some o => rw [s2 b o (s1 b o r)]; simp))
/-- a | b, b draws -/
theorem evn_orE (ha : EvP X a Γ (nt m)) (hb : Ev X b Γ fun d Γ' => ∃ n, d = nt n ∧ P (nt (m ||| n)) Γ') : Ev X (.BinOp a .BitOr b pos) Γ P :=
  ev_bin0 op_or (ev_p ha (ev_imp hb fun d Γ' ⟨n, e, z⟩ => ⟨(m : Int), (n : Int), rfl, e, by rw [or_nat]; exact z⟩))
theorem evn_andE (ha : EvP X a Γ (nt m)) (hb : Ev X b Γ fun d Γ' => ∃ n, d = nt n ∧ P (nt (m &&& n)) Γ') : Ev X (.BinOp a .BitAnd b pos) Γ P :=
  ev_bin0 op_and (ev_p ha (ev_imp hb fun d Γ' ⟨n, e, z⟩ => ⟨(m : Int), (n : Int), rfl, e, by rw [and_nat]; exact z⟩))
/-- 1 << e, e draws -/
theorem evn_shlE (he : Ev X e Γ fun d Γ' => ∃ t, d = nt t ∧ t ≤ 1000000 ∧ P (nt (2 ^ t)) Γ') : Ev X (.BinOp (.Constant (.int 1) kk p2) .LShift e pos) Γ P :=
  ev_bin (C := CPow) (f := fun i j => i * 2 ^ j.toNat) op_shl (ev_p evp_int (ev_imp he fun d Γ' ⟨t, e, ht, z⟩ => ⟨1, (t : Int), rfl, e, ⟨by omega, by omega, by decide⟩, by rw [shl_nat]; exact z⟩))
theorem evn_if {k : Bool} (hc : EvT X c Γ k) (ha : k = true → EvP X a Γ (nt m)) (hb : k = false → EvP X b Γ (nt n)) : EvP X (.IfExp c a b pos) Γ (nt (if k = true then m else n)) := by
  have h := evp_if (pos := pos) hc ha hb
  cases k
  · exact h
  · exact h
/-- one statement, then any of what it leaves -/
theorem ex_seq (I : Gm → Prop) (h1 : E1 X st Γ { O with N := I }) (h2 : ∀ Γ', I Γ' → Ex X rest Γ' O) : Ex X (st :: rest) Γ O :=
  ex_cons (fun B F σ H D g w => h1 B F σ H D g ⟨fun F' σ' H' Γ' s g' q => w.nx F' σ' H' Γ' s g' (h2 Γ' q), w.rt, w.bk, w.ct⟩)
/-- for x in range(e), e draws -/
theorem e1_forRg (k : Nat) {px : Pos} {p : Pos} {rpos : Pos} (I : Nat → Nat → Gm → Prop) (hm : X.mg "range" = none) (h : Ev X e Γ fun d Γ' => ∃ n, d = nt n ∧ n ≤ 100000 ∧ I n 0 Γ')
    (hk : ∀ n Γ' i, I n i Γ' → nOwn Γ' k = true)
    (hb : ∀ n i Γ', i < n → I n i Γ' → Ex X body (Γ'.set k (some (.d (nt i)))) { N := I n (i + 1), R := O.R, Bk := O.N, C := I n (i + 1) })
    (he : ∀ n Γ', I n n Γ' → O.N Γ') (hp : PassesOwn (model X.prog X.w) X.A X.env X.xe) (hc : X.calm = true) (hN : X.N.Nodup) (hi2 : X.N[k]? = some x := by rfl) (hx : Loc X.env.scope x := by first | exact .inl rfl | exact .inr rfl)
    (hf : X.fn x = true ∨ X.env.scope.names.lookup x = some .local := by first | exact .inl rfl | exact .inr rfl)
    (hs : ∀ x, foldedSetIterable (.Call (.Name "range" p) [e] [] rpos) X.env x = pure x := by intro _; rfl) (hg : Gl X "range" := by rfl) (hs0 : starEach [e] X.env = [(false, eval e X.env)] := by rfl) (hs1 : starEach [e] X.env = (false, eval e X.env) :: starEach [] X.env := by rfl) :
    E1 X (.For (.Name x px) (.Call (.Name "range" p) [e] [] rpos) body [] pos) Γ O := fun B F σ H D g w => by
  refine sS_of (ps_for hp hc (pi_range1 hg hm pa_s hs0) (pg_name hN hi2 hx hf) pb_s hs) ?_
  refine sA_of (pa_cons pe_s pa_nil hs1) (h B F σ H _ g fun v H1 F1 Γ1 d s1 g1 q1 ⟨n, e1, hn, i0⟩ => ?_)
  subst e1
  rw [dp_int q1]
  refine ⟨(n : Nat), rfl, by omega, by have : (n : Int) < 2 ^ 62 := by omega
                                       exact this, ?_⟩
  rw [Int.toNat_natCast]
  have Y : Yl X.K (hid (hd B F1) H1) (Itr 0 n) (upto n) := yl_rng
  have hlen : (upto n).length = n := upto_len n
  refine ⟨fun i m σ' H' => m = n - i ∧ i ≤ n ∧ ∃ F' Γ', Step F1 H1 F' H' ∧ GOk X.K B F' H' σ' Γ' ∧ I n i Γ', ⟨n, by simp, Nat.zero_le _, F1, Γ1, Step.refl, g1, i0⟩, ?_⟩
  rintro i m σ2 H2 ⟨rfl, hi', F2, Γ2, s2, g2, i2⟩
  have sS : Same (hid (hd B F1) H1) (hid (hd B F2) H2) := s2.stab
  by_cases hlt : i < n
  · refine .inr ⟨Y.go i H2 (sS.trans hid_le) (by rw [hlen]; exact hlt), fun σ' H' => i + 1 ≤ n ∧ ∃ F' Γ', Step F1 H1 F' H' ∧ GOk X.K B F' H' σ' Γ' ∧ I n (i + 1) Γ', fun σ' H' ⟨n1, n2⟩ => ⟨n - (i + 1), by omega, rfl, n1, n2⟩, fun v H3 yv => ?_⟩
    obtain ⟨s3, yd⟩ := Y.yld i H2 v H3 (nt i) (sS.trans hid_le) (by unfold upto; rw [List.getElem?_map, List.getElem?_range hlt]; rfl) yv
    have dx := yd (hd B F2) g2.own sS
    refine (tgt_name (hk n Γ2 i i2)).run B F2 σ2 H3 v _ (g2.grow s3) dx fun σ3 _ gk => ?_
    have st3 : Step F1 H1 F2 H3 := s2.trans (Step.same s3)
    refine hb n i Γ2 hlt i2 B F2 σ3 H3 _ gk ⟨fun F' σ' H' Γ' s g' q => ⟨hlt, F', Γ', st3.trans s, g', q⟩, fun v F' σ' H' Γ' d s g' r q => w.rt v F' σ' H' Γ' d (s1.trans (st3.trans s)) g' r q,
      fun F' σ' H' Γ' s g' q => w.nx F' σ' H' Γ' (s1.trans (st3.trans s)) g' q, fun F' σ' H' Γ' s g' q => ⟨hlt, F', Γ', st3.trans s, g', q⟩⟩
  · have e : i = n := by omega
    subst e
    exact .inl ⟨by
      have := Y.stop H2 (sS.trans hid_le)
      rw [hlen] at this
      exact this, w.nx F2 σ2 H2 Γ2 (s1.trans s2) g2 (he _ Γ2 i2)⟩
end
/-! ### some things, mixed -/
def preS (ds : List PyData) : Prop := ∃ w k : Nat, w ≤ 10 ∧ k ≤ 8 ∧ ds = [nt w, nt k]
def postS (ds : List PyData) (d : PyData) : Prop := ∃ w k m : Nat, ds = [nt w, nt k] ∧ m < 2 ^ w ∧ d = nt m
def preM (ds : List PyData) : Prop := ∃ xs : List PyData, xs.length ≤ 100 ∧ ds = [.list xs]
def postM (ds : List PyData) (d : PyData) : Prop := ∃ xs ys : List PyData, ds = [.list xs] ∧ ys.Perm xs ∧ d = .list ys
section
variable {P : Program} {w : World} {K : PySem.W.Frag} {mg : Str → Option Value} {base : Heap} {f : Addr} {fd : FuncData}
theorem sc_w_some : FnScope ["_law_spring_here", "_law_wide", "_law_many", "_law_mask_here", "_law_turn"] ["_law_spring_here", "_law_wide", "_law_many"] (defScope s_w_some) := ⟨rfl, rfl, rfl, by decide +kernel, rfl, by decide +kernel, by decide +kernel⟩
theorem ok_w_some (F : Fun K "_law_some" "_law_some" s_w_some f fd) (T : Mg mg) (Fd : FnP P w K mg base 1 "_law_draw" ["_law_spring_here", "_law_many"] (spS K 1 preD postD)) : FnOk P w K mg base CX0 2 f fd ["_law_spring_here", "_law_wide", "_law_many"] (spS K 8 preS postS) := by
  refine fun_spr F sc_w_some (fun ds ⟨w, k, _, _, e⟩ => by rw [e]; rfl) (fun cdv A outer s H E hr a n ds hn ⟨wd, k, hw, hk, e1⟩ => ?_)
  subst e1
  refine ex_cons (e1_set 3 (ev_p (evn_k 0) ?_) sc_w_some.nd)
  have hkk : (if decide (0 < wd) = true then k else 0) ≤ k := by split <;> omega
  refine ex_cons (e1_drop 4 (e1_for 4 (List.range (if decide (0 < wd) = true then k else 0)) nt (fun i Γ => ∃ m, m < 2 ^ wd ∧ i ≤ 8 ∧ Γ = [some (.s a (n + i)), some (.d (nt wd)), some (.d (nt k)), some (.d (nt m)), none])
    (evi_rngN T.range (evn_if (etn_gt (evp_var 1) (evn_k 0)) (fun _ => evp_var 2) (fun _ => evn_k 0)) (by omega)) ⟨0, Nat.two_pow_pos _, Nat.zero_le _, rfl⟩ (fun Γ i ⟨_, _, _, e⟩ => by rw [e]; rfl) (fun i t Γ hx ⟨m, hm, hi8, e⟩ => ?_) (fun Γ ⟨m, hm, hi8, e⟩ => ?_) PassesOwn.never rfl sc_w_some.nd))
  · subst e
    have hi := (List.getElem?_eq_some_iff.mp hx).1
    rw [List.length_range] at hi
    have hw0 : 0 < wd := by
      by_cases h : 0 < wd
      · exact h
      · rw [decide_eq_false h] at hi
        exact absurd hi (by simp)
    refine ex_dropN 4 (ex_one (e1_set 3 (evn_orE (evp_var 3) (evn_shlE (ev_callS Fd hr 0 rfl (evae_p (eva_1 (evp_var 1)) ⟨n + i, rfl, by omega, ⟨wd, hw0, by omega, rfl⟩, fun d ⟨m', r, e1, hr, e2⟩ => ?_⟩)))) sc_w_some.nd))
    have hmw : wd = m' := by
      have : nt wd = nt m' := by simpa using e1
      have := PyData.int.inj this
      omega
    subst hmw
    exact ⟨r, e2, by omega, 2 ^ r, rfl, m ||| 2 ^ r, Nat.or_lt_two_pow hm (Nat.pow_lt_pow_right (by decide) hr), by omega, rfl⟩
  · subst e
    exact ex_one (e1_ret (ev_p (evp_var 3) ⟨⟨_, by rw [List.length_range]; omega, rfl⟩, wd, k, m, rfl, hm, rfl⟩))
theorem sc_w_mixed : FnScope ["_law_spring_here", "_law_items", "_law_rest", "_law_found", "_law_turn"] ["_law_spring_here", "_law_items"] (defScope s_w_mixed) := ⟨rfl, rfl, rfl, by decide +kernel, rfl, by decide +kernel, by decide +kernel⟩
theorem perm_pop {xs : List PyData} {r : Nat} {y : PyData} (h : xs[r]? = some y) : (y :: xs.eraseIdx r).Perm xs := by
  induction xs generalizing r with
  | nil => simp at h
  | cons x xs ih =>
    cases r with
    | zero =>
      simp at h
      subst h
      exact List.Perm.refl _
    | succ r =>
      rw [List.eraseIdx_cons_succ]
      exact (List.Perm.swap _ _ _).trans ((ih (by simpa using h)).cons x)
theorem ok_w_mixed (F : Fun K "_law_mixed" "_law_mixed" s_w_mixed f fd) (T : Mg mg) (Fd : FnP P w K mg base 1 "_law_draw" ["_law_spring_here", "_law_many"] (spS K 1 preD postD)) : FnOk P w K mg base CX0 2 f fd ["_law_spring_here", "_law_items"] (spS K 100 preM postM) := by
  refine fun_spr F sc_w_mixed (fun ds ⟨xs, _, e⟩ => by rw [e]; rfl) (fun cdv A outer s H E hr a n ds hn ⟨xs, hl, e1⟩ => ?_)
  subst e1
  refine ex_cons (e1_parFF (i := 2) (j := 3) (ds1 := xs) (ds2 := []) (evf_list T.list (evp_var 1) (.inl rfl)) (evf_lst eva_nil) (by show 2 < 5; decide) (by show 3 < 5; decide) ?_ (by decide) rfl sc_w_mixed.nd (by rfl))
  refine ex_cons (e1_drop 4 (e1_for 4 (List.range xs.length) nt (fun i Γ => ∃ rest found, (found ++ rest).Perm xs ∧ found.length = i ∧ i ≤ xs.length ∧ Γ = [some (.s a (n + i)), some (.d (.list xs)), some (.l rest), some (.l found), none])
    (evi_rngN T.range (evp_lenL T.len (evp_var 1)) (by omega)) ⟨xs, [], List.Perm.refl _, rfl, Nat.zero_le _, rfl⟩ (fun Γ i ⟨_, _, _, _, _, e⟩ => by rw [e]; rfl) (fun i t Γ hx ⟨rest, found, hp, hf, hi, e⟩ => ?_) (fun Γ ⟨rest, found, hp, hf, hi, e⟩ => ?_) PassesOwn.never rfl sc_w_mixed.nd))
  · subst e
    have hil := (List.getElem?_eq_some_iff.mp hx).1
    rw [List.length_range] at hil
    have hlen := hp.length_eq
    rw [List.length_append, hf] at hlen
    refine ex_dropN 4 (ex_one (e1_appE 3 (xs0 := found) rfl (ev_popAt 2 (xs0 := rest) rfl (ev_callS Fd hr 0 rfl (evae_p (eva_1 (evp_frz 2 rfl rfl (evp_lenL T.len (evp_var 2)))) ⟨n + i, rfl, by omega, ⟨rest.length, by omega, by omega, rfl⟩, fun d ⟨m', r, e1, hr', e2⟩ => ?_⟩)))))
    have hmw : rest.length = m' := by
      have : nt rest.length = nt m' := by simpa using e1
      have := PyData.int.inj this
      omega
    subst hmw
    refine ⟨r, rest, rest[r], e2, by omega, rfl, List.getElem?_eq_getElem hr', found, rfl, Nat.lt_of_le_of_lt (show found.length ≤ 100 by omega) (by decide), rest.eraseIdx r, found ++ [rest[r]], ?_, by rw [List.length_append, hf, List.length_singleton], by omega, rfl⟩
    refine List.Perm.trans ?_ hp
    rw [List.append_assoc]
    exact (perm_pop (List.getElem?_eq_getElem hr')).append_left found
  · subst e
    refine ex_frz 3 rfl (ex_one (e1_ret (ev_p (evp_var 3) ⟨⟨_, by rw [List.length_range]; omega, rfl⟩, xs, found, rfl, ?_, rfl⟩)))
    have hlen := hp.length_eq
    rw [List.length_append, hf, List.length_range] at hlen
    rw [show rest = [] from List.eq_nil_of_length_eq_zero (by omega), List.append_nil] at hp
    exact hp
end
end Mt

set_option maxHeartbeats 4000000
namespace Mt
open PySem PySem.Spec PyProof.Rows L2
/-! ### shapes that compare -/
def shp (k : Nat) (d : PyData) : Prop := d.canLay0 = true ∧ d.depth ≤ k
def shps (k : Nat) (ds : List PyData) : Prop := PyData.canLayAll0 ds = true ∧ PyData.depthAll ds ≤ k
theorem shp_int (i : Int) : shp 1 (.int i) := ⟨rfl, by simp [PyData.depth]⟩
theorem shps_nil {k : Nat} : shps k [] := ⟨rfl, by simp [PyData.depthAll]⟩
theorem shps_cons {k : Nat} {d : PyData} {ds : List PyData} (h : shp k d) (t : shps k ds) : shps k (d :: ds) := by
  refine ⟨by rw [PyData.canLayAll0, h.1, t.1]; rfl, ?_⟩
  rw [PyData.depthAll]
  have := h.2
  have := t.2
  omega
theorem shps_map {α : Type} {k : Nat} {f : α → PyData} : ∀ (l : List α), (∀ x ∈ l, shp k (f x)) → shps k (l.map f)
  | [], _ => shps_nil
  | x :: l, h => shps_cons (h x List.mem_cons_self) (shps_map l fun y hy => h y (List.mem_cons_of_mem _ hy))
theorem shp_list {k : Nat} {ds : List PyData} (h : shps k ds) : shp (k + 1) (.list ds) := ⟨by rw [PyData.canLay0]; exact h.1, by rw [PyData.depth]; have := h.2; omega⟩
theorem shp_tup {k : Nat} {ds : List PyData} (h : shps k ds) : shp (k + 1) (.tuple ds) := ⟨by rw [PyData.canLay0]; exact h.1, by rw [PyData.depth]; have := h.2; omega⟩
theorem shp_mono {k m : Nat} {d : PyData} (h : shp k d) (l : k ≤ m) : shp m d := ⟨h.1, Nat.le_trans h.2 l⟩
theorem shaped_of {k : Nat} {d : PyData} (h : shp k d) (l : k ≤ 64) : SeqAt.shaped d = true := by
  unfold SeqAt.shaped
  rw [h.1, decide_eq_true (Nat.le_trans h.2 l)]
  rfl
theorem shp_rules (rs : List Ru) : shp 3 (rulesD rs) := shp_list (shps_map rs fun r _ => shp_tup (shps_cons (shp_int _) (shps_cons (shp_int _) shps_nil)))
theorem nl_of {Γ : Gm} (i : Nat) (h : (Γ.set i none).all entNL = true) : ∀ (k : Nat) e, k ≠ i → Γ[k]? = some e → entNL e = true := fun k e hk he => by
  refine List.all_eq_true.mp h e ?_
  refine List.mem_of_getElem? (i := k) ?_
  rw [List.getElem?_set_ne (Ne.symm hk)]
  exact he
theorem noLs_rules : ∀ rs : List Ru, noLs (rs.map fun r => .tuple [nt r.1, nt r.2]) = true
  | [] => rfl
  | r :: rs => by
    rw [List.map_cons, noLs, noLs_rules rs]
    rfl
def preN (ds : List PyData) : Prop := ∃ w : Nat, w ≤ 5 ∧ ds = [nt w]
def okR (w : Nat) (rs : List Ru) : Prop := ∀ r ∈ rs, r.1 < 2 ^ w ∧ r.2 < 2 ^ w
def postN (ds : List PyData) (d : PyData) : Prop := ∃ (w : Nat) (rs : List Ru), ds = [nt w] ∧ rs.length ≤ 8 ∧ okR w rs ∧ d = rulesD rs
theorem nt_inj {a b : Nat} (h : nt a = nt b) : a = b := by
  have := PyData.int.inj h
  omega
theorem one_inj {a b : Nat} (h : [nt a] = [nt b]) : a = b := nt_inj (by simpa using h)
section
variable {P : Program} {w : World} {K : PySem.W.Frag} {mg : Str → Option Value} {base : Heap} {f : Addr} {fd : FuncData}
theorem sc_w_needs : FnScope ["_law_spring_here", "_law_wide", "_law_found", "_law_turn", "_law_way", "_law_ahead", "_law_behind"] ["_law_spring_here", "_law_wide"] (defScope s_w_needs) := ⟨rfl, rfl, rfl, by decide +kernel, rfl, by decide +kernel, by decide +kernel⟩
theorem ok_w_needs (F : Fun K "_law_needs" "_law_needs" s_w_needs f fd) (T : Mg mg) (Fd : FnP P w K mg base 1 "_law_draw" ["_law_spring_here", "_law_many"] (spS K 1 preD postD)) (Fp : FnP P w K mg base 2 "_law_pick" ["_law_spring_here", "_law_items"] (spS K 1 preP postP))
    (Fs : FnP P w K mg base 2 "_law_some" ["_law_spring_here", "_law_wide", "_law_many"] (spS K 8 preS postS)) : FnOk P w K mg base CX0 3 f fd ["_law_spring_here", "_law_wide"] (spS K 200 preN postN) := by
  refine fun_spr F sc_w_needs (fun ds ⟨w, _, e⟩ => by rw [e]; rfl) (fun cdv A outer s H E hr a n ds hn ⟨wd, hw, e1⟩ => ?_)
  subst e1
  have hp5 : 2 ^ wd ≤ 32 := Nat.pow_le_pow_right (show 0 < 2 by decide) hw
  have hp0 : 0 < 2 ^ wd := Nat.two_pow_pos _
  refine ex_cons (e1_setF 2 (evf_lst eva_nil) (by show 2 < 7; decide) ?_ sc_w_needs.nd)
  let G : Nat → Nat → Gm → Prop := fun k i Γ => k ≤ 8 ∧ i ≤ 8 ∧ ∃ m rs, m ≤ n + 1 + 22 * i ∧ rs.length = i ∧ okR wd rs ∧ Γ = [some (.s a m), some (.d (nt wd)), some (.l (rs.map fun r => .tuple [nt r.1, nt r.2])), none, none, none, none]
  refine ex_cons (e1_forRg 3 G T.range ?_ (fun k Γ i ⟨_, _, _, _, _, _, _, e⟩ => by rw [e]; rfl) (fun k i Γ hik ⟨hk8, hi8, m, rs, hm, hl, hok, e⟩ => ?_) (fun k Γ ⟨hk8, hi8, m, rs, hm, hl, hok, e⟩ => ?_) PassesOwn.never rfl sc_w_needs.nd)
  · refine ev_callS Fp (hr.mono (by decide)) 0 rfl (evae_p (eva_1 (evf_p (evf_lst (ds := [nt 0, nt 1, nt 2, nt 3, nt 4, nt 5, nt 6, nt 8]) (eva_cons (evn_k 0) (eva_cons (evn_k 1) (eva_cons (evn_k 2) (eva_cons (evn_k 3) (eva_cons (evn_k 4) (eva_cons (evn_k 5) (eva_cons (evn_k 6) (eva_1 (evn_k 8)))))))))))) ⟨n, rfl, by omega, ⟨_, by simp, by simp, rfl⟩, fun d ⟨xs, e1, hd⟩ => ?_⟩)
    obtain rfl : [nt 0, nt 1, nt 2, nt 3, nt 4, nt 5, nt 6, nt 8] = xs := by simpa using e1
    obtain ⟨k, hk, rfl⟩ : ∃ k : Nat, k ≤ 8 ∧ d = nt k := by
      simp only [List.mem_cons, List.not_mem_nil, or_false] at hd
      rcases hd with rfl | rfl | rfl | rfl | rfl | rfl | rfl | rfl
      · exact ⟨0, by omega, rfl⟩
      · exact ⟨1, by omega, rfl⟩
      · exact ⟨2, by omega, rfl⟩
      · exact ⟨3, by omega, rfl⟩
      · exact ⟨4, by omega, rfl⟩
      · exact ⟨5, by omega, rfl⟩
      · exact ⟨6, by omega, rfl⟩
      · exact ⟨8, by omega, rfl⟩
    exact ⟨k, rfl, by omega, hk, by omega, n + 1, [], by omega, rfl, (fun r hr => nomatch hr), rfl⟩
  · subst e
    refine ex_dropN 3 (ex_dropN 4 (ex_dropN 5 (ex_dropN 6 ?_)))
    refine ex_cons (e1_set 4 (ev_callS Fd (hr.mono (by decide)) 0 rfl (evae_p (eva_1 (evn_k 14)) ⟨m, rfl, by omega, ⟨14, by decide, by decide, rfl⟩, fun d ⟨m', way, e1, hway, e2⟩ => ?_⟩)) sc_w_needs.nd)
    subst e2
    refine ex_cons (e1_set 5 (ev_callS Fs (hr.mono (by decide)) 0 rfl (evae_cons (ev_p (evp_var 1) (evae_cons (ev_callS Fp (hr.mono (by decide)) 0 rfl (evae_p (eva_1 (evf_p (evf_lst (ds := [nt 1, nt 2, nt 2, nt 3, nt 3]) (eva_cons (evn_k 1) (eva_cons (evn_k 2) (eva_cons (evn_k 2) (eva_cons (evn_k 3) (eva_1 (evn_k 3))))))))) ⟨m + 1, rfl, by omega, ⟨_, by simp, by simp, rfl⟩, fun d ⟨xs, e1, hd⟩ => evae_nil ?_⟩)))))) sc_w_needs.nd)
    obtain rfl : [nt 1, nt 2, nt 2, nt 3, nt 3] = xs := by simpa using e1
    obtain ⟨k1, hk1, rfl⟩ : ∃ k : Nat, k ≤ 8 ∧ d = nt k := by
      simp only [List.mem_cons, List.not_mem_nil, or_false] at hd
      rcases hd with rfl | rfl | rfl | rfl | rfl
      · exact ⟨1, by omega, rfl⟩
      · exact ⟨2, by omega, rfl⟩
      · exact ⟨2, by omega, rfl⟩
      · exact ⟨3, by omega, rfl⟩
      · exact ⟨3, by omega, rfl⟩
    refine ⟨m + 1 + 1, rfl, by omega, ⟨wd, k1, by omega, hk1, rfl⟩, fun d ⟨w', k', x, e1, hx, e2⟩ => ?_⟩
    obtain rfl : wd = w' := nt_inj (by simp at e1; exact congrArg PyData.int e1.1)
    subst e2
    refine ex_cons (e1_set 6 (ev_callS Fs (hr.mono (by decide)) 0 rfl (evae_cons (ev_p (evp_var 1) (evae_cons (ev_callS Fp (hr.mono (by decide)) 0 rfl (evae_p (eva_1 (evf_p (evf_lst (ds := [nt 1, nt 1, nt 1, nt 2]) (eva_cons (evn_k 1) (eva_cons (evn_k 1) (eva_cons (evn_k 1) (eva_1 (evn_k 2)))))))) ⟨m + 1 + 1 + 8, rfl, by omega, ⟨_, by simp, by simp, rfl⟩, fun d ⟨xs, e1, hd⟩ => evae_nil ?_⟩)))))) sc_w_needs.nd)
    obtain rfl : [nt 1, nt 1, nt 1, nt 2] = xs := by simpa using e1
    obtain ⟨k2, hk2, rfl⟩ : ∃ k : Nat, k ≤ 8 ∧ d = nt k := by
      simp only [List.mem_cons, List.not_mem_nil, or_false] at hd
      rcases hd with rfl | rfl | rfl | rfl
      · exact ⟨1, by omega, rfl⟩
      · exact ⟨1, by omega, rfl⟩
      · exact ⟨1, by omega, rfl⟩
      · exact ⟨2, by omega, rfl⟩
    refine ⟨m + 1 + 1 + 8 + 1, rfl, by omega, ⟨wd, k2, by omega, hk2, rfl⟩, fun d ⟨w', k', y, e1, hy, e2⟩ => ?_⟩
    obtain rfl : wd = w' := nt_inj (by simp at e1; exact congrArg PyData.int e1.1)
    subst e2
    let J : Nat → Gm → Prop := fun c Γ => ∃ m' x y, m' ≤ m + c ∧ x < 2 ^ wd ∧ y < 2 ^ wd ∧ Γ = [some (.s a m'), some (.d (nt wd)), some (.l (rs.map fun r => .tuple [nt r.1, nt r.2])), some (.d (nt i)), some (.d (nt way)), some (.d (nt x)), some (.d (nt y))]
    refine ex_seq (J 19) (e1_if (etn_eq (evp_var 4) (evn_k 0)) (fun _ => ex_one (e1_set 5 (ev_p (evn_k 0) ⟨_, 0, y, by omega, hp0, hy, rfl⟩) sc_w_needs.nd)) (fun _ => ex_nil ⟨_, x, y, by omega, hx, hy, rfl⟩)) (fun Γ ⟨m1, x1, y1, hm1, hx1, hy1, e⟩ => ?_)
    subst e
    refine ex_seq (J 20) (e1_if (etn_eq (evp_var 4) (evn_k 1)) (fun _ => ex_one (e1_set 6 (evn_andE (evp_var 5) (ev_callS Fd (hr.mono (by decide)) 0 rfl (evae_p (eva_1 (evn_shl (evp_var 1) (by omega))) ⟨m1, rfl, by omega, ⟨2 ^ wd, hp0, by omega, rfl⟩, fun d ⟨m', r, e1, hr', e2⟩ => ⟨r, e2, _, x1, x1 &&& r, (by omega : m1 + 1 ≤ m + 20), hx1, Nat.and_lt_two_pow _ (by rw [one_inj e1]; exact hr'), rfl⟩⟩))) sc_w_needs.nd)) (fun _ => ex_nil ⟨_, x1, y1, by omega, hx1, hy1, rfl⟩)) (fun Γ ⟨m2, x2, y2, hm2, hx2, hy2, e⟩ => ?_)
    subst e
    refine ex_seq (J 21) (e1_if (etn_eq (evp_var 4) (evn_k 2)) (fun _ => ex_one (e1_set 5 (ev_callS Fd (hr.mono (by decide)) 0 rfl (evae_p (eva_1 (evn_shl (evp_var 1) (by omega))) ⟨m2, rfl, by omega, ⟨2 ^ wd, hp0, by omega, rfl⟩, fun d ⟨m', r, e1, hr', e2⟩ => by
      subst e2
      exact ⟨_, r, y2, (by omega : m2 + 1 ≤ m + 21), by rw [one_inj e1]; exact hr', hy2, rfl⟩⟩)) sc_w_needs.nd)) (fun _ => ex_nil ⟨_, x2, y2, by omega, hx2, hy2, rfl⟩)) (fun Γ ⟨m3, x3, y3, hm3, hx3, hy3, e⟩ => ?_)
    subst e
    refine ex_seq (J 21) (e1_if (etn_eq (evp_var 4) (evn_k 3)) (fun _ => ex_one (e1_set 6 (ev_p (evn_or (evp_var 6) (evp_var 5)) ⟨_, x3, y3 ||| x3, hm3, hx3, Nat.or_lt_two_pow hy3 hx3, rfl⟩) sc_w_needs.nd)) (fun _ => ex_nil ⟨_, x3, y3, hm3, hx3, hy3, rfl⟩)) (fun Γ ⟨m4, x4, y4, hm4, hx4, hy4, e⟩ => ?_)
    subst e
    refine ex_seq (J 22) (e1_if (evt_and (etn_eq (evp_var 4) (evn_k 4)) (fun _ => evt_frz 2 rfl (evt_neD (un64 hr) (evp_var 2) (evf_p (evf_lst eva_nil)) (shaped_of (shp_rules rs) (by decide)) (shaped_ints [])))) (fun hk => ?_) (fun _ => ex_nil ⟨_, x4, y4, by omega, hx4, hy4, rfl⟩)) (fun Γ ⟨m5, x5, y5, hm5, hx5, hy5, e⟩ => ?_)
    · have hne : rs.map (fun r => PyData.tuple [nt r.1, nt r.2]) ≠ [] := fun z => by
        unfold rulesD at hk
        rw [z, eqv_nil] at hk
        simp at hk
      refine ex_one (e1_unT (i := 5) (j := 6) (d1 := .none) (d2 := .none) (ev_frzE 2 rfl (noLs_rules rs) (ev_callS Fp (hr.mono (by decide)) 0 rfl (evae_p (eva_1 (evp_var 2)) ⟨m4, rfl, by omega, ⟨_, hne, by rw [List.length_map]; omega, rfl⟩, fun d ⟨xs, e1, hd⟩ => ?_⟩))) rfl (pgs_cons (pg_name (i := 5) sc_w_needs.nd rfl (Or.inl rfl)) (pgs_cons (pg_name (i := 6) sc_w_needs.nd rfl (Or.inl rfl)) pgs_nil)))
      obtain rfl : rs.map (fun r => PyData.tuple [nt r.1, nt r.2]) = xs := by simpa using e1
      obtain ⟨r, hr', rfl⟩ := List.mem_map.mp hd
      exact ⟨rfl, rfl, nl_of 2 rfl, _, _, rfl, m4 + 1, r.1, r.2, by omega, (hok r hr').1, (hok r hr').2, rfl⟩
    · subst e
      refine ex_one (e1_app 2 (evp_tup (eva_cons (evp_var 5) (eva_1 (evp_var 6)))) rfl ?_ ?_)
      · rw [List.length_map, hl]
        exact Nat.lt_of_le_of_lt hi8 (by decide)
      · refine ⟨hk8, by omega, m5, rs ++ [(x5, y5)], by omega, by rw [List.length_append, hl, List.length_singleton], fun r hr' => ?_, by rw [List.map_append]; rfl⟩
        rcases List.mem_append.mp hr' with hr' | hr'
        · exact hok r hr'
        · rw [show r = (x5, y5) by simpa using hr']
          exact ⟨hx5, hy5⟩
  · subst e
    exact ex_frz 2 rfl (ex_one (e1_ret (ev_p (evp_var 2) ⟨⟨m, by omega, rfl⟩, wd, rs, rfl, by omega, hok, rfl⟩)))
end
end Mt

set_option maxHeartbeats 4000000
namespace Mt
open PySem PySem.Spec PyProof.Rows L2
section
variable {K : PySem.W.Frag} {B Z : Addr → Prop} {F F' : Nat → List Addr} {H H' : Hp} {σ : L2.St} {Γ Γ' : Gm}
/-- new things are hidden -/
theorem GOk.coverL (g : GOk K B F H σ Γ) (s : Same H H') (n : ∀ b, Z b → H b = none) (t : ∀ b, Z b → H' b ≠ none) : GOk K (fun b => Z b ∨ B b) F H' σ Γ := by
  have g1 := g.grow s
  have st : Same (hid (hd B F) H) (hid (hd (fun b => Z b ∨ B b) F) H') := fun b o q => by
    obtain ⟨q1, q2⟩ := hid_iff.mp q
    refine hid_iff.mpr ⟨fun z => ?_, s b o q2⟩
    rcases z with (z | z) | z
    · rw [n b z] at q2; cases q2
    · exact q1 (.inl z)
    · exact q1 (.inr z)
  refine ⟨g.ls, g.dj, fun i b h z => ?_, fun b z => ?_, fun i e h => ?_, g.nil⟩
  · rcases z with z | z
    · exact g.own b (.inr ⟨i, h⟩) (n b z)
    · exact g.out i b h z
  · rcases z with (z | z) | z
    · exact t b z
    · exact g1.own b (.inl z)
    · exact g1.own b (.inr z)
  · obtain ⟨v, h1, h2⟩ := g.ent i e h
    refine ⟨v, h1, h2.mono st fun b hb => ?_⟩
    cases q : H b with
    | none => exact absurd q (g.own b (.inr ⟨i, hb⟩))
    | some o => exact s b o q
theorem hid_poke {b : Addr} {o : HO} (hb : B b) : Same (hid B H) (hid B (upd H b o)) := fun x u q => by
  obtain ⟨q1, q2⟩ := hid_iff.mp q
  exact hid_iff.mpr ⟨q1, by rw [upd_ne (fun z => q1 (by rw [z]; exact hb))]; exact q2⟩
/-- a hidden thing is written -/
theorem GOk.poke (g : GOk K B F H σ Γ) {b : Addr} {o : HO} (hb : B b) : GOk K B F (upd H b o) σ Γ := by
  refine ⟨g.ls, g.dj, g.out, fun x z => ?_, fun i e h => ?_, g.nil⟩
  · by_cases hx : x = b
    · rw [hx, upd_same]; simp
    · rw [upd_ne hx]; exact g.own x z
  · obtain ⟨v, h1, h2⟩ := g.ent i e h
    exact ⟨v, h1, h2.mono (hid_poke (.inl hb)) fun x hx => upd_ne fun z => g.out i x hx (by rw [z]; exact hb)⟩
/-- hidden things are shown at a slot -/
theorem GOk.show (g : GOk K (fun b => Z b ∨ B b) F H σ Γ) {i : Nat} {v : V} {d : PyData} (hσ : σ[i]? = some (some v)) (hn : nOwn Γ i = true) (hd' : Dp K (hid (hd B F) H) v d) : GOk K B F H σ (Γ.set i (some (.d d))) := by
  have st : Same (hid (hd (fun b => Z b ∨ B b) F) H) (hid (hd B F) H) := fun b o q => by
    obtain ⟨q1, q2⟩ := hid_iff.mp q
    refine hid_iff.mpr ⟨fun z => q1 ?_, q2⟩
    rcases z with z | z
    · exact .inl (.inr z)
    · exact .inr z
  refine ⟨by rw [List.length_set]; exact g.ls, g.dj, fun k b h z => g.out k b h (.inr z), fun b z => ?_, fun k e h => ?_, fun k h => ?_⟩
  · rcases z with z | z
    · exact g.own b (.inl (.inr z))
    · exact g.own b (.inr z)
  · by_cases hk : i = k
    · subst hk
      have hl : i < Γ.length := by
        have := (List.getElem?_eq_some_iff.mp h).1
        rw [List.length_set] at this
        exact this
      rw [List.getElem?_set_self hl] at h
      cases h
      exact ⟨v, hσ, hd'⟩
    · rw [List.getElem?_set_ne hk] at h
      obtain ⟨u, h1, h2⟩ := g.ent k e h
      exact ⟨u, h1, h2.mono st fun _ _ => rfl⟩
  · by_cases hk : i = k
    · subst hk
      exact g.nil i hn
    · rw [nOwn_ne hk] at h
      exact g.nil k h
end
section
variable {X : Cx} {a b c e tg iter elt : Expr} {es ifs : List Expr} {Γ : Gm} {d : PyData} {ds : List PyData} {pos p : Pos}
def intV (l : List Nat) : List V := l.map fun n => V.int (n : Nat)
theorem dps_intV {K : PySem.W.Frag} {H : Hp} : ∀ (l : List Nat), DpAll K H (intV l) (l.map nt)
  | [] => .nil
  | n :: r => .cons (.int _) (dps_intV r)
theorem dps_intV' {K : PySem.W.Frag} {H : Hp} {vs : List V} {l : List Nat} (h : DpAll K H vs (l.map nt)) : vs = intV l := by
  rw [map_nt] at h
  rw [dps_ints' h, intV, List.map_map]
  rfl
/-- [[..] for .. in ..]: a new list of new lists -/
theorem lcF_mk {α : Type} {scope : Scope} {gt : TG} {ks : List Nat} (xs : List α) (enc : α → PyData) (el : α → List Nat) (Γ' : α → Gm) (hi : EvI X tg iter Γ (xs.map enc)) (hl : xs.length ≤ sizeLine)
    (hg : ∀ x ∈ xs, Tgt X.K gt ks Γ (enc x) (Γ' x))
    (he : ∀ (s : Shared) (H0 : Hp) (C : Addr) (cl : List (Str × Addr)) (fp : List Addr) (x : α), x ∈ xs → EvF (Blk X s H0 scope C cl fp) elt (Γ' x) ((el x).map nt))
    {B : Addr → Prop} {F : Nat → List Addr} {σ : L2.St} {H : Hp} {Q : VK} (g : GOk X.K B F H σ Γ)
    (h : ∀ D as H', Same H H' → H D = none → (∀ a ∈ as, H a = none) → (D :: as).Nodup → H' D = some (.lst (as.map V.ref)) → as.length = xs.length → (∀ (i : Nat) (a : Addr) (x : α), as[i]? = some a → xs[i]? = some x → H' a = some (.lst (intV (el x)))) → Q (.ref D) H') :
    tLc (sI X tg iter) gt (sCb X scope []) (sEb X scope elt) ks σ H Q := by
  refine hi B F σ H _ g fun J H1 s1 Y D hD => ?_
  have hlen : (xs.map enc).length = xs.length := List.length_map ..
  refine ⟨fun i m H2 => m = xs.length - i ∧ i ≤ xs.length ∧ Same H1 H2 ∧ ∃ as : List Addr, H2 D = some (.lst (as.map V.ref)) ∧ as.length = i ∧ (∀ a ∈ as, H a = none) ∧ (D :: as).Nodup ∧ ∀ (j : Nat) (a : Addr) (x : α), as[j]? = some a → xs[j]? = some x → H2 a = some (.lst (intV (el x))),
    ⟨xs.length, by simp, Nat.zero_le _, same_new hD, [], upd_same, rfl, (fun a ha => nomatch ha), by simp, fun j a x z _ => by simp at z⟩, ?_⟩
  rintro i m H2 ⟨rfl, hi', s2, as, hacc, hal, hfr, hnd, hq⟩
  have sS : Same (hid (hd B F) H1) H2 := hid_le.trans s2
  by_cases hlt : i < xs.length
  · refine .inr ⟨Y.go i H2 sS (by rw [hlen]; exact hlt), fun H3 => i + 1 ≤ xs.length ∧ Same H1 H3 ∧ ∃ as : List Addr, H3 D = some (.lst (as.map V.ref)) ∧ as.length = i + 1 ∧ (∀ a ∈ as, H a = none) ∧ (D :: as).Nodup ∧ ∀ (j : Nat) (a : Addr) (x : α), as[j]? = some a → xs[j]? = some x → H3 a = some (.lst (intV (el x))),
      fun H' ⟨n1, n2, n3⟩ => ⟨xs.length - (i + 1), by omega, rfl, n1, n2, n3⟩, fun x H3 y => ?_⟩
    have hx : xs[i]? = some xs[i] := List.getElem?_eq_getElem hlt
    have hm : xs[i] ∈ xs := List.getElem_mem hlt
    obtain ⟨s3, yd⟩ := Y.yld i H2 x H3 (enc xs[i]) sS (by rw [List.getElem?_map, hx]; rfl) y
    have own : ∀ b, hd (also D B) F b → H2 b ≠ none := fun b z => by
      rcases z with (z | z) | z
      · rw [z, hacc]; simp
      · exact (g.grow (s1.trans s2)).own b (.inl z)
      · exact (g.grow (s1.trans s2)).own b (.inr z)
    have dx := yd (hd (also D B) F) own fun b o q => by
      obtain ⟨q1, q2⟩ := hid_iff.mp q
      refine hid_iff.mpr ⟨fun z => ?_, s2 b o q2⟩
      rcases z with (z | z) | z
      · rw [z, hD] at q2; cases q2
      · exact q1 (.inl z)
      · exact q1 (.inr z)
    have h3D : H3 D = some (.lst (as.map V.ref)) := s3 _ _ hacc
    have gc : GOk X.K (also D B) F H3 σ Γ := g.cover (s1.trans (s2.trans s3)) (s1.free hD) (by rw [h3D]; simp)
    refine (hg _ hm).runW (also D B) F σ H3 x _ gc dx fun σ2 hw gk => ⟨hw, fun s0 H0 C cl fp => ?_⟩
    refine (evc_nil : EvC (Blk X s0 H0 scope C cl fp) [] _ true) (also D B) F σ2 H3 _ gk fun H4 s4 => ?_
    refine iteT fun s0 H0 C cl fp => ?_
    refine he s0 H0 C cl fp _ hm (also D B) F σ2 H4 _ (gk.grow s4) fun na vs H5 s5 n5 e5 q5 => ?_
    have h5D : H5 D = some (.lst (as.map V.ref)) := s5 _ _ (s4 _ _ h3D)
    have hnD : na ≠ D := fun z => by rw [z, s4 _ _ h3D] at n5; cases n5
    have hnas : na ∉ as := fun z => by
      obtain ⟨j, hj⟩ := List.getElem?_of_mem z
      have hjl := (List.getElem?_eq_some_iff.mp hj).1
      have := s4 _ _ (s3 _ _ (hq j na xs[j] hj (List.getElem?_eq_getElem (by omega))))
      rw [n5] at this; cases this
    have nH : H na = none := by
      cases r : H na with
      | none => rfl
      | some o => rw [s4 _ _ (s3 _ _ (s2 _ _ (s1 _ _ r)))] at n5; cases n5
    refine ⟨as.map V.ref, h5D, by rw [List.length_map]; omega, hlt, fun b o q => ?_, as ++ [na], ?_, by rw [List.length_append, hal, List.length_singleton], fun a ha => ?_, ?_, fun j a z hj hz => ?_⟩
    · have ne : b ≠ D := ne_of_none q hD
      rw [upd_ne ne]
      exact s5 _ _ (s4 _ _ (s3 _ _ (s2 _ _ q)))
    · rw [List.map_append]
      exact upd_same
    · rcases List.mem_append.mp ha with ha | ha
      · exact hfr a ha
      · rw [show a = na by simpa using ha]
        exact nH
    · rw [← List.cons_append, List.nodup_append]
      refine ⟨hnd, by simp, fun u hu w hw e => ?_⟩
      rw [show w = na by simpa using hw] at e
      subst e
      rcases List.mem_cons.mp hu with hu | hu
      · exact hnD hu
      · exact hnas hu
    · have haD : a ≠ D := fun z1 => by
        subst z1
        have hmem := List.mem_of_getElem? hj
        rcases List.mem_append.mp hmem with hmem | hmem
        · rw [List.nodup_cons] at hnd
          exact hnd.1 hmem
        · exact hnD (show na = a by simpa using (by simpa using hmem : a = na).symm)
      rw [upd_ne haD]
      by_cases hji : j < as.length
      · rw [List.getElem?_append_left hji] at hj
        exact s5 _ _ (s4 _ _ (s3 _ _ (hq j a z hj hz)))
      · rw [List.getElem?_append_right (by omega)] at hj
        have hj0 : j - as.length = 0 := by
          have := (List.getElem?_eq_some_iff.mp hj).1
          simp at this
          omega
        rw [hj0] at hj
        obtain rfl : na = a := by simpa using hj
        obtain rfl : j = i := by omega
        rw [hx] at hz
        obtain rfl := Option.some.inj hz
        rw [e5, dps_intV' q5]
  · have e : i = xs.length := by omega
    subst e
    refine .inl ⟨by rw [← hlen]; exact Y.stop H2 sS, ?_⟩
    exact h D as H2 (s1.trans s2) (s1.free hD) hfr hnd hacc hal hq
/-- list(range(e)), e draws -/
theorem ev_listRg {p2 q2 : Pos} {P : PyData → Gm → Prop} (hc : X.calm = true) (hm : X.mg "list" = none) (hm2 : X.mg "range" = none) (ha : Ev X e Γ fun d Γ' => ∃ n, d = nt n ∧ n ≤ 16777216 ∧ P (.list (upto n)) Γ') (hg : Gl X "list" := by rfl) (hg2 : Gl X "range" := by rfl)
    (hs : starEach [e] X.env = (false, eval e X.env) :: starEach [] X.env := by rfl) (hs2 : starEach [.Call (.Name "range" p2) [e] [] q2] X.env = (false, eval (.Call (.Name "range" p2) [e] [] q2) X.env) :: starEach [] X.env := by rfl) :
    Ev X (.Call (.Name "list" p) [.Call (.Name "range" p2) [e] [] q2] [] pos) Γ P := fun B F σ H Q g k =>
  sE_of (pe_listRg hc hg hm (prg_1 hg2 hm2 pe_s hs) hs2) (ha B F σ H _ g fun v H1 F1 Γ1 d s1 g1 q ⟨n, e1, hn, z⟩ => by
    subst e1
    refine ⟨(n : Nat), dp_int q, .of_le (by omega) (by omega) (by omega) (by omega), fun l hl => ?_⟩
    have s2 := same_new (o := .lst (rgV 0 (n : Nat))) hl
    exact k _ _ F1 Γ1 _ (s1.trans (Step.same s2)) (g1.grow s2) (.lst (.inl (.inl (hid_new (own_of g1 (Same.refl _)) hl))) (rgV_upto n)) z)
end
end Mt

set_option maxHeartbeats 4000000
namespace Mt
open PySem PySem.Spec PyProof.Rows L2
/-! ### members: lists in a list, each its own -/
structure Mem (H : Hp) (M : Addr) (as : List Addr) (xss : List (List Nat)) : Prop where
  m : H M = some (.lst (as.map V.ref))
  len : as.length = xss.length
  it : ∀ (i : Nat) (a : Addr) (x : List Nat), as[i]? = some a → xss[i]? = some x → H a = some (.lst (intV x))
theorem Mem.keep {H H' : Hp} {M : Addr} {as : List Addr} {xss : List (List Nat)} (h : Mem H M as xss) (k : ∀ b, b = M ∨ b ∈ as → H' b = H b) : Mem H' M as xss :=
  ⟨by rw [k M (.inl rfl)]; exact h.m, h.len, fun i a x h1 h2 => by rw [k a (.inr (List.mem_of_getElem? h1))]; exact h.it i a x h1 h2⟩
theorem Mem.push {H : Hp} {M : Addr} {as : List Addr} {xss : List (List Nat)} (h : Mem H M as xss) (nd : (M :: as).Nodup) {r t : Nat} {x : List Nat} {a : Addr} (ha : as[r]? = some a) (hx : xss[r]? = some x) : Mem (upd H a (.lst (intV x ++ [V.int (t : Nat)]))) M as (xss.set r (x ++ [t])) := by
  rw [List.nodup_cons] at nd
  refine ⟨?_, by rw [List.length_set]; exact h.len, fun i b y h1 h2 => ?_⟩
  · rw [upd_ne (fun z => nd.1 (by rw [z]; exact List.mem_of_getElem? ha))]
    exact h.m
  · by_cases hi : r = i
    · subst hi
      rw [ha] at h1
      obtain rfl := Option.some.inj h1
      rw [List.getElem?_set_self (List.getElem?_eq_some_iff.mp hx).1] at h2
      obtain rfl := Option.some.inj h2
      rw [upd_same]
      unfold intV
      rw [List.map_append]
      rfl
    · rw [List.getElem?_set_ne hi] at h2
      have hne : b ≠ a := fun z => by
        subst z
        obtain ⟨l1, e1⟩ := List.getElem?_eq_some_iff.mp h1
        obtain ⟨l2, e2⟩ := List.getElem?_eq_some_iff.mp ha
        exact hi ((List.getElem_inj nd.2).mp (e2.trans e1.symm))
      rw [upd_ne hne]
      exact h.it i b y h1 h2
theorem flat_push : ∀ {xss : List (List Nat)} {r t : Nat} {x : List Nat}, xss[r]? = some x → (xss.set r (x ++ [t])).flatten.Perm (xss.flatten ++ [t])
  | [], _, _, _, h => by simp at h
  | y :: ys, 0, t, x, h => by
    obtain rfl : y = x := by simpa using h
    rw [List.set_cons_zero, List.flatten_cons, List.flatten_cons, List.append_assoc, List.append_assoc]
    exact (List.perm_append_comm).append_left y
  | y :: ys, r + 1, t, x, h => by
    rw [List.set_cons_succ, List.flatten_cons, List.flatten_cons, List.append_assoc]
    exact (flat_push (by simpa using h)).append_left y
theorem dp_members {K : PySem.W.Frag} {S : Hp} : ∀ {as : List Addr} {xss : List (List Nat)}, as.length = xss.length → (∀ (i : Nat) (a : Addr) (x : List Nat), as[i]? = some a → xss[i]? = some x → S a = some (.lst (intV x))) → DpAll K S (as.map V.ref) (xss.map intsD)
  | [], [], _, _ => .nil
  | [], _ :: _, h, _ => by simp at h
  | _ :: _, [], h, _ => by simp at h
  | a :: as, x :: xss, h, k => .cons (.lst (.inl (.inl (k 0 a x rfl rfl))) (dps_intV x)) (dp_members (by simpa using h) fun i b y h1 h2 => k (i + 1) b y (by simpa using h1) (by simpa using h2))
theorem perm_map_inv {α β : Type} {f : α → β} {ys zs : List β} (h : ys.Perm zs) : ∀ l : List α, zs = l.map f → ∃ l' : List α, l'.Perm l ∧ ys = l'.map f := by
  induction h with
  | nil => intro l e; exact ⟨[], by cases l with | nil => exact .refl _ | cons _ _ => simp at e, rfl⟩
  | cons x _ ih =>
    intro l e
    cases l with
    | nil => simp at e
    | cons a l =>
      rw [List.map_cons] at e
      injection e with e1 e2
      obtain ⟨l', p, q⟩ := ih l e2
      exact ⟨a :: l', p.cons a, by rw [List.map_cons, ← q, e1]⟩
  | swap x y t =>
    intro l e
    match l, e with
    | a :: b :: l, e =>
      simp only [List.map_cons] at e
      injection e with e1 e2
      injection e2 with e2 e3
      exact ⟨b :: a :: l, List.Perm.swap .., by rw [List.map_cons, List.map_cons, e1, e2, e3]⟩
  | trans _ _ ih1 ih2 =>
    intro l e
    obtain ⟨l1, p1, q1⟩ := ih2 l e
    obtain ⟨l2, p2, q2⟩ := ih1 l1 q1
    exact ⟨l2, p2.trans p1, q2⟩
def fst1 (x : List Nat) : Nat := 2 ^ x.headD 0
def lst1 (x : List Nat) : Nat := 2 ^ x.getLastD 0
def cyc (x : List Nat) : List Ru := (List.range (if decide (1 < x.length) = true then x.length else 0)).map fun i => (2 ^ x.getD i 0, 2 ^ x.getD ((i + 1) % x.length) 0)
def blw0 (xss : List (List Nat)) (rs : List Ru) : List Ru := (rs.map fun r => (sprd (xss.map fst1) r.1, sprd (xss.map lst1) r.2)) ++ xss.flatMap cyc
structure Part (w L : Nat) (xss : List (List Nat)) : Prop where
  len : xss.length = w
  ne : ∀ x ∈ xss, x ≠ []
  perm : xss.flatten.Perm (List.range L)
def preB (ds : List PyData) : Prop := ∃ (w : Nat) (rs : List Ru), w ≤ 5 ∧ rs.length ≤ 8 ∧ ds = [nt w, rulesD rs]
def postB (ds : List PyData) (d : PyData) : Prop := ∃ (w : Nat) (rs : List Ru) (L : Nat) (xss : List (List Nat)) (rs' : List Ru), ds = [nt w, rulesD rs] ∧ L ≤ 10 ∧ Part w L xss ∧ rs'.Perm (blw0 xss rs) ∧ d = .list [nt L, rulesD rs', intsD (xss.map msk)]
theorem evn_mod {X : Cx} {a b : Expr} {Γ : Gm} {pos : Pos} {m n : Nat} (h : 0 < n) (ha : EvP X a Γ (nt m)) (hb : EvP X b Γ (nt n)) : EvP X (.BinOp a .Mod b pos) Γ (nt (m % n)) := by
  rw [show nt (m % n) = .int ((m : Int) % (n : Int)) by rw [← Int.natCast_emod]]
  exact evp_bin op_mod (show (0 : Int) < n by omega) ha hb
theorem at_first {x : List Nat} (h : x ≠ []) : atI (x.map nt) ((0 : Nat) : Int) = some (nt (x.headD 0)) := by
  cases x with
  | nil => exact absurd rfl h
  | cons a l => exact L2.atI_nat rfl
theorem at_last {x : List Nat} (h : x ≠ []) : atI (x.map nt) (-1) = some (nt (x.getLastD 0)) := by
  rcases List.eq_nil_or_concat x with e | ⟨l, a, e⟩
  · exact absurd e h
  · subst e
    rw [List.concat_eq_append, List.map_append]
    rw [show [a].map nt = [nt a] from rfl, atI_last]
    simp
end Mt

set_option maxHeartbeats 4000000
namespace Mt
open PySem PySem.Spec PyProof.Rows L2
section
variable {P : Program} {w : World} {K : PySem.W.Frag} {mg : Str → Option Value} {base : Heap} {f : Addr} {fd : FuncData}
abbrev nBl : List Str := ["_law_spring_here", "_law_wide", "_law_needs_here", "_law_line", "_law_members", "_law_found", "_law_one", "_law_kin", "_law_firsts", "_law_lasts", "_law_ahead", "_law_behind", "_law_at", "_law_spot"]
theorem sc_w_blown : FnScope nBl ["_law_spring_here", "_law_wide", "_law_needs_here"] (defScope s_w_blown) := ⟨rfl, rfl, rfl, by decide +kernel, rfl, by decide +kernel, by decide +kernel⟩
abbrev st_bl (i : Nat) : Stmt := (defBody s_w_blown).getD i (.Pass ⟨0, 0, 0, 0⟩)
abbrev gBl (a : Addr) (c wd : Nat) (rs : List Ru) (ln : List Nat) (mem : Option Ent) (fnd : Option Ent) : Gm := [some (.s a c), some (.d (nt wd)), some (.d (rulesD rs)), some (.d (intsD ln)), mem, fnd, none, none, none, none, none, none, none, none]
/-- members and found are made, the rest of the line is dealt out -/
theorem blown_mid {cdv : Value} {A : Around} {outer : List Env} {s : Shared} {H0 : Hp} {E : XK} (T : Mg mg) (hr : Room 2 (A.deeper (envOfC "_law_blown" (defScope s_w_blown) s.heap.objs.size f cdv))) (Fd : FnP P w K mg base 1 "_law_draw" ["_law_spring_here", "_law_many"] (spS K 1 preD postD))
    {a : Addr} {n wd : Nat} {rs : List Ru} {ln : List Nat} {rest : List Stmt} {O : Out} (hn : n + 20 ≤ many) (hw : wd ≤ ln.length) (hl : ln.length ≤ 10) (h0 : wd = 0 → ln = [])
    (k : ∀ (c : Nat) (xss : List (List Nat)), c ≤ n + 10 → xss.length = wd → (∀ x ∈ xss, x ≠ []) → xss.flatten.Perm ln → Ex (Cb P w K mg base nBl "_law_blown" s_w_blown f cdv A outer s H0 E) rest (gBl a c wd rs ln (some (.d (.list (xss.map intsD)))) (some (.l []))) O) :
    Ex (Cb P w K mg base nBl "_law_blown" s_w_blown f cdv A outer s H0 E) (st_bl 1 :: st_bl 2 :: rest) (gBl a n wd rs ln none none) O := fun B F σ H D g wn => by
  refine b_cons (sS_of (ps_par (i := 4) (j := 5) rfl sc_w_blown.nd rfl rfl (by decide) rfl rfl pa_s (by rfl)) ?_)
  refine sA_of (pa_cons pe_s (pa_cons pe_s pa_nil)) ?_
  -- the members
  show sE _ _ _ _ _
  refine sE_of (pe_lc rfl sc_w_blown.nd pi_s (blkOk_by (own := [("_law_one", 6)]) (N := nBl) (sc := defScope s_w_blown) (by decide +kernel)) (fun _ _ _ _ _ => pg_name (i := 6) sc_w_blown.nd rfl (Or.inl rfl)) (fun s H C cl fp => (⟨fun pins s' _ _ _ I q => q s H C cl fp pins s' I⟩ : PTs (Blk _ s H _ C cl fp) _ (sCb _ _ _))) (fun s H C cl fp => (⟨fun pins s' _ _ _ I q => q s H C cl fp pins s' I⟩ : PE (Blk _ s H _ C cl fp) _ (sEb _ _ _)))) ?_
  refine lcF_mk (ln.take wd) nt (fun x => [x]) (fun x => (gBl a n wd rs ln none none).set 6 (some (.d (nt x)))) (evi_list ?_) (by rw [List.length_take]; exact Nat.le_trans (Nat.min_le_right _ _) (Nat.le_trans hl (by decide))) (fun x _ => tgt_name rfl) (fun _ _ _ _ _ x _ => evf_lst (eva_1 (evp_var 6))) g fun M as H1 s1 nM nas nd hM hal hit => ?_
  · rw [List.map_take]
    exact evf_p (evf_slHi (n := wd) (evp_var 3) (evp_var 1))
  have hZ0 : ∀ b, b ∈ M :: as → H b = none := fun b hb => by
    rcases List.mem_cons.mp hb with hb | hb
    · rw [hb]; exact nM
    · exact nas b hb
  have hmem1 : Mem H1 M as ((ln.take wd).map fun x => [x]) := ⟨hM, by rw [List.length_map]; exact hal, fun i b x h1 h2 => by
    rw [List.getElem?_map] at h2
    cases e : (ln.take wd)[i]? with
    | none => rw [e] at h2; cases h2
    | some t =>
      rw [e] at h2
      obtain rfl : [t] = x := by simpa using h2
      exact hit i b t h1 e⟩
  have hZ1 : ∀ b, b ∈ M :: as → H1 b ≠ none := fun b hb => by
    rcases List.mem_cons.mp hb with hb | hb
    · rw [hb, hM]; simp
    · obtain ⟨i, hi⟩ := List.getElem?_of_mem hb
      have hil := (List.getElem?_eq_some_iff.mp hi).1
      rw [hit i b (ln.take wd)[i] hi (List.getElem?_eq_getElem (by omega))]
      simp
  have g1 : GOk K (fun b => b ∈ M :: as ∨ B b) F H1 σ (gBl a n wd rs ln none none) := g.coverL s1 hZ0 hZ1
  -- found
  show sE _ _ _ _ _
  refine (evf_lst eva_nil : EvF (Cb P w K mg base nBl "_law_blown" s_w_blown f cdv A outer s H0 E) _ (gBl a n wd rs ln none none) []) (fun b => b ∈ M :: as ∨ B b) F σ H1 _ g1 fun l2 vs2 H2 s2 n2 e2 q2 => ?_
  have g2 : GOk K (also l2 (fun b => b ∈ M :: as ∨ B b)) F H2 σ (gBl a n wd rs ln none none) := g1.cover s2 n2 (by rw [e2]; simp)
  have nB2 : ¬ (fun b => b ∈ M :: as ∨ B b) l2 := fun z => by
    rcases z with z | z
    · exact hZ1 _ z n2
    · exact g1.own l2 (.inl (.inr z)) n2
  have g3 := g2.setV 4 (some (.ref M))
  have q3 : DpAll K (hid (hd (also l2 (fun b => b ∈ M :: as ∨ B b)) (upF F 4 [])) H2) vs2 [] := dps_mono (Step.stab step_drop) _ q2
  have g4 := g3.setL 5 (by show 5 < 14; decide) nB2 e2 q3
  have nl2 : H l2 = none := s1.free n2
  have st4 : Step F H (upF (upF F 4 []) 5 [l2]) H2 := by
    refine ⟨fun b o h _ => s2 b o (s1 b o h), fun k b h => ?_, fun b h => ?_⟩
    · rcases upF_mem h with ⟨_, z⟩ | ⟨_, z⟩
      · refine .inr ?_
        rw [show b = l2 by simpa using z]
        exact nl2
      · rcases upF_mem z with ⟨_, z⟩ | ⟨_, z⟩
        · cases z
        · exact .inl ⟨k, z⟩
    · cases r : H b with
      | none => exact absurd r h
      | some o => rw [s2 b o (s1 b o r)]; simp
  have hmem2 : Mem H2 M as ((ln.take wd).map fun x => [x]) := hmem1.keep fun b hb => by
    have : b ∈ M :: as := by
      rcases hb with hb | hb
      · rw [hb]; exact List.mem_cons_self
      · exact List.mem_cons_of_mem _ hb
    cases r : H1 b with
    | none => exact absurd r (hZ1 b this)
    | some o => exact s2 b o r
  refine ⟨_, _, rfl, ?_⟩
  have hσ4 : ((σ.set 4 (some (.ref M))).set 5 (some (.ref l2)))[4]? = some (some (.ref M)) := by
    rw [List.getElem?_set_ne (by decide), List.getElem?_set_self (by rw [g.ls]; show 4 < 14; decide)]
  have hΓ4 : ((gBl a n wd rs ln none none).set 4 none).set 5 (some (.l [])) = gBl a n wd rs ln none (some (.l [])) := rfl
  rw [hΓ4] at g4
  show sB _ _ _ ((σ.set 4 (some (.ref M))).set 5 (some (.ref l2))) H2
  generalize (σ.set 4 (some (.ref M))).set 5 (some (.ref l2)) = σ4 at g4 hσ4
  generalize upF (upF F 4 []) 5 [l2] = F4 at g4 st4
  clear g1 g2 g3 q3 q2 e2 n2 s2 hmem1 hZ1 hM hit nB2 nl2
  -- the rest is dealt out
  refine b_cons (sS_of (ps_for PassesOwn.never rfl pi_s (pg_name (i := 6) sc_w_blown.nd rfl (Or.inl rfl)) pb_s) ?_)
  refine (evi_list (evf_p (evf_slLo (n := wd) (evp_var 3) (evp_var 1))) : EvI (Cb P w K mg base nBl "_law_blown" s_w_blown f cdv A outer s H0 E) _ _ (gBl a n wd rs ln none (some (.l []))) ((ln.map nt).drop wd)) (fun b => b ∈ M :: as ∨ B b) F4 σ4 H2 _ g4 fun J H3 s3 Y => ?_
  have ed : (ln.map nt).drop wd = (ln.drop wd).map nt := by rw [List.map_drop]
  rw [ed] at Y
  have hlen : ((ln.drop wd).map nt).length = (ln.drop wd).length := List.length_map ..
  have hdl : (ln.drop wd).length = ln.length - wd := List.length_drop ..
  have g5 := g4.grow s3
  have st5 : Step F H F4 H3 := st4.trans (Step.same s3)
  have hmem3 : Mem H3 M as ((ln.take wd).map fun x => [x]) := hmem2.keep fun b hb => by
    cases r : H2 b with
    | none =>
      have : (fun b => b ∈ M :: as ∨ B b) b := by
        rcases hb with hb | hb
        · rw [hb]; exact .inl List.mem_cons_self
        · exact .inl (List.mem_cons_of_mem _ hb)
      exact absurd r (g4.own b (.inl this))
    | some o => exact s3 b o r
  clear hmem2 st4 g4
  refine ⟨fun i m σ' H' => m = (ln.drop wd).length - i ∧ i ≤ (ln.drop wd).length ∧ ∃ F' c, ∃ xss : List (List Nat), c = n + i ∧ Step F H F' H' ∧ Same (hid (hd (fun b => b ∈ M :: as ∨ B b) F4) H3) (hid (hd (fun b => b ∈ M :: as ∨ B b) F') H') ∧ GOk K (fun b => b ∈ M :: as ∨ B b) F' H' σ' (gBl a c wd rs ln none (some (.l []))) ∧ σ'[4]? = some (some (.ref M)) ∧ Mem H' M as xss ∧
      xss.length = wd ∧ (∀ x ∈ xss, x ≠ []) ∧ xss.flatten.Perm (ln.take wd ++ (ln.drop wd).take i), ⟨(ln.drop wd).length, by simp, Nat.zero_le _, F4, n, _, rfl, st5, Same.refl _, g5, hσ4, hmem3, by rw [List.length_map, List.length_take]; omega, fun x hx => ?_, ?_⟩, ?_⟩
  · obtain ⟨t, _, rfl⟩ := List.mem_map.mp hx
    simp
  · rw [List.take_zero, List.append_nil]
    have : ∀ l : List Nat, (l.map fun x => [x]).flatten = l := by
      intro l
      induction l with
      | nil => rfl
      | cons x l ih => rw [List.map_cons, List.flatten_cons, ih] <;> rfl
    rw [this]
  rintro i m σ2 H4 ⟨rfl, hi', F5, c, xss, rfl, st6, sm6, g6, hσ6, hm6, hx1, hx2, hx3⟩
  by_cases hlt : i < (ln.drop wd).length
  · refine .inr ⟨Y.go i H4 (sm6.trans hid_le) (by rw [hlen]; exact hlt), fun σ' H' => i + 1 ≤ (ln.drop wd).length ∧ ∃ F' c, ∃ xss : List (List Nat), c = n + (i + 1) ∧ Step F H F' H' ∧ Same (hid (hd (fun b => b ∈ M :: as ∨ B b) F4) H3) (hid (hd (fun b => b ∈ M :: as ∨ B b) F') H') ∧ GOk K (fun b => b ∈ M :: as ∨ B b) F' H' σ' (gBl a c wd rs ln none (some (.l []))) ∧ σ'[4]? = some (some (.ref M)) ∧ Mem H' M as xss ∧
      xss.length = wd ∧ (∀ x ∈ xss, x ≠ []) ∧ xss.flatten.Perm (ln.take wd ++ (ln.drop wd).take (i + 1)), fun σ' H' ⟨n1, n2⟩ => ⟨(ln.drop wd).length - (i + 1), by omega, rfl, n1, n2⟩, fun v H5 yv => ?_⟩
    have hx : (ln.drop wd)[i]? = some (ln.drop wd)[i] := List.getElem?_eq_getElem hlt
    generalize (ln.drop wd)[i] = t at hx
    obtain ⟨s5, yd⟩ := Y.yld i H4 v H5 (nt t) (sm6.trans hid_le) (by rw [List.getElem?_map, hx]; rfl) yv
    have dx := yd (hd (fun b => b ∈ M :: as ∨ B b) F5) g6.own sm6
    have hw0 : 0 < wd := by
      rcases Nat.eq_zero_or_pos wd with h | h
      · rw [h0 h] at hlt
        simp at hlt
      · exact h
    obtain rfl := dp_int dx
    have g7 : GOk K (fun b => b ∈ M :: as ∨ B b) F5 H5 (σ2.set 6 (some (.int (t : Nat)))) ((gBl a (n + i) wd rs ln none (some (.l []))).set 6 (some (.d (nt t)))) := gname_set (g6.grow s5) rfl (.int _)
    have hσ7 : (σ2.set 6 (some (V.int (t : Nat))))[4]? = some (some (.ref M)) := by rw [List.getElem?_set_ne (by decide)]; exact hσ6
    have hσ8 : (σ2.set 6 (some (V.int (t : Nat))))[6]? = some (some (.int (t : Nat))) := List.getElem?_set_self (by rw [g6.ls]; show 6 < 14; decide)
    have hlσ : (σ2.set 6 (some (V.int (t : Nat)))).length = 14 := by rw [List.length_set, g6.ls]; rfl
    have hown : ∀ b, b = M ∨ b ∈ as → (fun b => b ∈ M :: as ∨ B b) b := fun b hb => by
      rcases hb with hb | hb
      · rw [hb]; exact .inl List.mem_cons_self
      · exact .inl (List.mem_cons_of_mem _ hb)
    have hm7 : Mem H5 M as xss := hm6.keep fun b hb => by
      cases r : H4 b with
      | none => exact absurd r (g6.own b (.inl (hown b hb)))
      | some o => exact s5 b o r
    show sB _ _ _ (σ2.set 6 (some (V.int (t : Nat)))) H5
    generalize hσn : σ2.set 6 (some (V.int (t : Nat))) = σ7 at g7 hσ7 hσ8 hlσ
    refine b_cons (s_setE 7 (sE_of (pe_ix ix_list pe_s pe_s (fun _ _ => rfl)) (VE.go (ve_var 4 hσ7) ?_)) sc_w_blown.nd)
    refine (ev_callS (P := fun d Γ' => ∃ r, r < wd ∧ d = nt r ∧ Γ' = (gBl a (n + i + 1) wd rs ln none (some (.l []))).set 6 (some (.d (nt t)))) Fd (hr.mono (by decide)) 0 rfl (evae_p (eva_1 (evp_var 1)) ⟨n + i, rfl, by omega, ⟨wd, hw0, by omega, rfl⟩, fun d ⟨m', r, e1, hr, e2⟩ => ⟨r, by rw [one_inj e1]; exact hr, e2, rfl⟩⟩) :
      Ev (Cb P w K mg base nBl "_law_blown" s_w_blown f cdv A outer s H0 E) _ ((gBl a (n + i) wd rs ln none (some (.l []))).set 6 (some (.d (nt t)))) _) (fun b => b ∈ M :: as ∨ B b) F5 σ7 H5 _ g7 fun u H6 F6 Γ6 d s6 g8 q8 ⟨r, hr8, e8, e9⟩ => ?_
    subst e8 e9
    obtain rfl := dp_int q8
    have hm8 : Mem H6 M as xss := hm7.keep fun b hb => by
      cases q : H5 b with
      | none => exact absurd q (g7.own b (.inl (hown b hb)))
      | some o => exact s6.keep b o q fun i z => g7.out i b z (hown b hb)
    obtain ⟨ar, hra⟩ : ∃ ar, as[r]? = some ar := ⟨_, List.getElem?_eq_getElem (show r < as.length by rw [hm8.len]; omega)⟩
    obtain ⟨xr, hrx⟩ : ∃ xr, xss[r]? = some xr := ⟨_, List.getElem?_eq_getElem (show r < xss.length by omega)⟩
    have hrm : ar ∈ as := List.mem_of_getElem? hra
    refine ⟨M, as.map V.ref, (r : Nat), .ref ar, rfl, rfl, .inl (.inl hm8.m), L2.atI_nat (by rw [List.getElem?_map, hra]; rfl), ?_⟩
    have g9 := g8.setV 7 (some (.ref ar))
    have hΓ7 : ((gBl a (n + i + 1) wd rs ln none (some (.l []))).set 6 (some (.d (nt t)))).set 7 none = (gBl a (n + i + 1) wd rs ln none (some (.l []))).set 6 (some (.d (nt t))) := rfl
    rw [hΓ7] at g9
    have hz9 : (σ7.set 7 (some (.ref ar)))[4]? = some (some (.ref M)) := by rw [List.getElem?_set_ne (by decide)]; exact hσ7
    have hz10 : (σ7.set 7 (some (.ref ar)))[6]? = some (some (.int (t : Nat))) := by rw [List.getElem?_set_ne (by decide)]; exact hσ8
    have hz11 : (σ7.set 7 (some (V.ref ar)))[7]? = some (some (.ref ar)) := List.getElem?_set_self (by rw [hlσ]; decide)
    have hit := hm8.it r ar xr hra hrx
    have hxl : xr.length ≤ 10 := by
      have h1 := hx3.length_eq
      rw [List.length_append, List.length_take, List.length_take, hdl] at h1
      have h2 : xr.length ≤ xss.flatten.length := List.Sublist.length_le (List.sublist_flatten_of_mem (List.mem_of_getElem? hrx))
      omega
    refine b_one (s_expr (e_app (ve_var 7 hz11) (ve_var 6 hz10) hit (by unfold intV; rw [List.length_map]; exact Nat.lt_of_le_of_lt hxl (by decide)) ?_))
    have hz : (fun b => b ∈ M :: as ∨ B b) ar := .inl (List.mem_cons_of_mem _ hrm)
    have gp := (g9.poke (o := .lst (intV xr ++ [V.int (t : Nat)])) hz).drop 6
    refine ⟨hlt, _, n + (i + 1), xss.set r (xr ++ [t]), rfl, ?_, ?_, gp, hz9, hm8.push nd hra hrx, by rw [List.length_set]; exact hx1, fun x hxm => ?_, ?_⟩
    · have sa : Step F H F6 H6 := st6.trans ((Step.same s5).trans s6)
      have na : H ar = none := hZ0 ar (List.mem_cons_of_mem _ hrm)
      refine ⟨fun b o q z => ?_, fun i b z => ?_, fun b q => ?_⟩
      · rw [upd_ne (ne_of_none q na)]
        exact sa.keep b o q z
      · rcases upF_mem z with ⟨_, z⟩ | ⟨_, z⟩
        · cases z
        · rcases upF_mem z with ⟨_, z⟩ | ⟨_, z⟩
          · cases z
          · exact sa.new i b z
      · have := sa.trk b q
        by_cases hb : b = ar
        · rw [hb, upd_same]; simp
        · rw [upd_ne hb]; exact this
    · refine (sm6.trans ((hid_same s5).trans s6.stab)).trans ?_
      refine Same.trans (hid_poke (o := .lst (intV xr ++ [V.int (t : Nat)])) (.inl hz)) (Same.trans (Step.stab step_drop) (Step.stab step_drop))
    · rcases List.mem_or_eq_of_mem_set hxm with hxm | hxm
      · exact hx2 x hxm
      · rw [hxm]; simp
    · refine (flat_push hrx).trans ?_
      have : (ln.drop wd).take (i + 1) = (ln.drop wd).take i ++ [t] := take_snoc hx
      rw [this, ← List.append_assoc]
      exact hx3.append_right [t]
  · have e : i = (ln.drop wd).length := by omega
    subst e
    rw [List.take_length, List.take_append_drop] at hx3
    refine .inl ⟨by rw [← hlen]; exact Y.stop H4 (sm6.trans hid_le), ?_⟩
    have nhid : ∀ b, b ∈ M :: as → ¬ hd B F5 b := fun b hb z => by
      rcases z with z | ⟨j, z⟩
      · exact g.own b (.inl z) (hZ0 b hb)
      · exact g6.out j b z (.inl hb)
    have dm : Dp K (hid (hd B F5) H4) (.ref M) (.list (xss.map intsD)) := .lst (.inl (.inl (hid_iff.mpr ⟨nhid M List.mem_cons_self, hm6.m⟩))) (dp_members hm6.len fun j b x h1 h2 => hid_iff.mpr ⟨nhid b (List.mem_cons_of_mem _ (List.mem_of_getElem? h1)), hm6.it j b x h1 h2⟩)
    have gs := g6.show hσ6 rfl dm
    exact k (n + (ln.drop wd).length) xss (by omega) hx1 hx2 hx3 B F5 σ2 H4 D gs (wn.step st6)
end
end Mt

set_option maxHeartbeats 4000000
namespace Mt
open PySem PySem.Spec PyProof.Rows L2
theorem flatMap_snoc {α β : Type} {f : α → List β} {l : List α} {i : Nat} {x : α} (h : l[i]? = some x) : (l.take (i + 1)).flatMap f = (l.take i).flatMap f ++ f x := by
  rw [take_snoc h, List.flatMap_append, List.flatMap_cons, List.flatMap_nil, List.append_nil]
theorem cyc_len (x : List Nat) : (cyc x).length ≤ x.length := by
  unfold cyc
  rw [List.length_map, List.length_range]
  split <;> omega
theorem cycs_len : ∀ xss : List (List Nat), (xss.flatMap cyc).length ≤ xss.flatten.length
  | [] => by simp
  | x :: xss => by
    have h1 := cycs_len xss
    have h2 := cyc_len x
    rw [List.flatMap_cons, List.length_append, List.flatten_cons, List.length_append]
    omega
theorem cycs_take : ∀ (xss : List (List Nat)) (i : Nat), ((xss.take i).flatMap cyc).length ≤ xss.flatten.length
  | [], i => by simp
  | x :: xss, 0 => by simp
  | x :: xss, i + 1 => by
    have h1 := cycs_take xss i
    have h2 := cyc_len x
    rw [List.take_succ_cons, List.flatMap_cons, List.length_append, List.flatten_cons, List.length_append]
    omega
theorem evn_lenI {X : Cx} {e : Expr} {Γ : Gm} {p pos : Pos} {l : List Nat} (hm : X.mg "len" = none) (ha : EvP X e Γ (intsD l)) (hg : Gl X "len" := by rfl) (hs : starEach [e] X.env = (false, eval e X.env) :: starEach [] X.env := by rfl) : EvP X (.Call (.Name "len" p) [e] [] pos) Γ (nt l.length) := by
  have h := evp_lenL (pos := pos) (p := p) hm ha hg hs
  rw [List.length_map] at h
  exact h
abbrev pairD (r : Ru) : PyData := .tuple [nt r.1, nt r.2]
section
variable {P : Program} {w : World} {K : PySem.W.Frag} {mg : Str → Option Value} {base : Heap} {f : Addr} {fd : FuncData}
theorem ok_w_blown (F : Fun K "_law_blown" "_law_blown" s_w_blown f fd) (T : Mg mg) (Fd : FnP P w K mg base 1 "_law_draw" ["_law_spring_here", "_law_many"] (spS K 1 preD postD)) (Fm : FnP P w K mg base 2 "_law_mixed" ["_law_spring_here", "_law_items"] (spS K 100 preM postM))
    (Fs : FnP P w K mg base 1 "_law_spread" ["_law_images", "_law_mask_here"] (spP K R_w_spread)) : FnOk P w K mg base CX0 3 f fd ["_law_spring_here", "_law_wide", "_law_needs_here"] (spS K 300 preB postB) := by
  refine fun_spr F sc_w_blown (fun ds ⟨w, rs, _, _, e⟩ => by rw [e]; rfl) (fun cdv A outer s H E hr a n ds hn ⟨wd, rs, hw, hrs, e1⟩ => ?_)
  subst e1
  let I : Gm → Prop := fun Γ => ∃ (c : Nat) (ln : List Nat), c ≤ n + 101 ∧ wd ≤ ln.length ∧ ln.length ≤ 10 ∧ (wd = 0 → ln = []) ∧ ln.Perm (List.range ln.length) ∧ Γ = gBl a c wd rs ln none none
  have fin : ∀ (m x : Nat) (d : PyData) , m ≤ n + 1 → wd + x ≤ 10 → (wd = 0 → x = 0) → postM [.list (upto (wd + x))] d → I (gBl a (m + 100) wd rs [] none none |>.set 3 (some (.d d))) := fun m x d hm hx h0 ⟨xs, ys, e1, hp, e2⟩ => by
    obtain rfl : upto (wd + x) = xs := by simpa using e1
    obtain ⟨ln, hl, rfl⟩ := perm_map_inv hp (List.range (wd + x)) rfl
    subst e2
    have hlen : ln.length = wd + x := by rw [hl.length_eq, List.length_range]
    refine ⟨m + 100, ln, by omega, by omega, by omega, fun h => ?_, by rw [hlen]; exact hl, rfl⟩
    exact List.eq_nil_of_length_eq_zero (by have := h0 h; omega)
  refine ex_seq I (e1_set 3 (ev_callS Fm hr 0 rfl (evae_cons (ev_listRg rfl T.list T.range (ev_bin0 op_add (ev_p (evp_var 1) (ev_if (etn_gt (evp_var 1) (evn_k 0)) (fun h0 => ev_callS Fd (hr.mono (by decide)) 0 rfl (evae_p (eva_1 (evn_sub (n := wd) (m := 11) (by omega) (evn_k 11) (evp_var 1))) ⟨n, rfl, by omega, ⟨11 - wd, by omega, by omega, rfl⟩, fun d ⟨m', x, e1, hx, e2⟩ => ⟨(wd : Int), (x : Int), rfl, e2, wd + x, by rw [nt, Int.natCast_add], by have := one_inj e1; omega, evae_nil ⟨n + 1, rfl, by omega, ⟨upto (wd + x), by rw [upto_len]; have := one_inj e1; omega, rfl⟩, fun d hd => fin (n + 1) x d (Nat.le_refl _) (by have := one_inj e1; omega) (fun h => absurd h (by have := of_decide_eq_true h0; omega)) hd⟩⟩⟩)) (fun h0 => ev_p (evn_k 0) ⟨(wd : Int), ((0 : Nat) : Int), rfl, rfl, wd + 0, by rw [nt, Int.natCast_add], by omega, evae_nil ⟨n, rfl, by omega, ⟨upto (wd + 0), by rw [upto_len]; omega, rfl⟩, fun d hd => fin n 0 d (by omega) (by omega) (fun _ => rfl) hd⟩⟩))))))) sc_w_blown.nd) (fun Γ ⟨c, ln, hc, hwl, hl10, h00, hperm, e⟩ => ?_)
  subst e
  refine blown_mid T hr Fd (by omega) hwl hl10 h00 (fun c' xss hc' hx1 hx2 hx3 => ?_)
  have hp : Part wd ln.length xss := ⟨hx1, hx2, hx3.trans hperm⟩
  have hfl : xss.flatten.length ≤ 10 := by rw [hx3.length_eq]; exact hl10
  have hxl : ∀ x ∈ xss, x.length ≤ 10 := fun x hx => Nat.le_trans (List.Sublist.length_le (List.sublist_flatten_of_mem hx)) hfl
  have hxt : ∀ x ∈ xss, ∀ t ∈ x, t < 10 := fun x hx t ht => by
    have h1 := hp.perm.mem_iff.mp (List.mem_flatten.mpr ⟨x, hx, ht⟩)
    have := List.mem_range.mp h1
    omega
  -- firsts, lasts
  refine ex_cons (e1_par (i := 8) (j := 9) (d1 := intsD (xss.map fst1)) (d2 := intsD (xss.map lst1)) ?_ ?_ ?_ (by decide) rfl sc_w_blown.nd (by rfl))
  · rw [intsD, List.map_map]
    exact evf_p (evf_c1 sc_w_blown (lc1n 7 xss intsD (fun x => nt (fst1 x)) (evi_list (evp_var 4)) (by omega) (fun _ _ _ _ _ x hm => evn_shl (evp_ixL (evp_var 7) (evn_k 0) (at_first (hx2 x hm))) (by
      have h1 := hxt x hm
      have h2 := hx2 x hm
      cases x with
      | nil => exact absurd rfl h2
      | cons t l => have := h1 t List.mem_cons_self; show t ≤ _; omega))))
  · rw [intsD, List.map_map]
    exact evf_p (evf_c1 sc_w_blown (lc1n 7 xss intsD (fun x => nt (lst1 x)) (evi_list (evp_var 4)) (by omega) (fun _ _ _ _ _ x hm => evn_shl (evp_ixL (evp_var 7) (evp_un un_neg evp_int) (at_last (hx2 x hm))) (by
      have h1 := hxt x hm
      have h2 := hx2 x hm
      rcases List.eq_nil_or_concat x with e | ⟨l, t, e⟩
      · exact absurd e h2
      · have := h1 t (by rw [e]; simp)
        rw [e, List.concat_eq_append]
        have e2 : (l ++ [t]).getLastD 0 = t := by simp
        rw [e2]
        omega))))
  -- the needs, spread
  let sp : Ru → Ru := fun r => (sprd (xss.map fst1) r.1, sprd (xss.map lst1) r.2)
  refine ex_cons (e1_for2G 10 11 rs (fun r => nt r.1) (fun r => nt r.2) (fun i => [some (.s a c'), some (.d (nt wd)), some (.d (rulesD rs)), some (.d (intsD ln)), some (.d (.list (xss.map intsD))), some (.l (((rs.take i).map sp).map pairD)), none, none, some (.d (intsD (xss.map fst1))), some (.d (intsD (xss.map lst1))), none, none, none, none]) (evi_list (evp_var 2)) rfl
    (fun _ => ⟨rfl, rfl⟩) (by decide) (fun i r hx => ?_) ?_ PassesOwn.never rfl sc_w_blown.nd (pgs_cons (pg_name (i := 10) sc_w_blown.nd rfl (Or.inl rfl)) (pgs_cons (pg_name (i := 11) sc_w_blown.nd rfl (Or.inl rfl)) pgs_nil)))
  · refine ex_one (e1_app 5 (evp_tup (eva_cons (evp_call Fs (hr.mono (by decide)) ⟨xss.map fst1, r.1, by rw [List.length_map]; omega, rfl, rfl⟩ (eva_cons (evp_var 8) (eva_1 (evp_var 10)))) (eva_1 (evp_call Fs (hr.mono (by decide)) ⟨xss.map lst1, r.2, by rw [List.length_map]; omega, rfl, rfl⟩ (eva_cons (evp_var 9) (eva_1 (evp_var 11))))))) rfl ?_ ?_)
    · rw [List.length_map, List.length_map, List.length_take]
      exact Nat.lt_of_le_of_lt (Nat.le_trans (Nat.min_le_right _ _) hrs) (by decide)
    · rw [take_snoc hx, List.map_append, List.map_append]
      rfl
  rw [List.take_length]
  -- rounds
  refine ex_cons (e1_forG 7 xss intsD (fun i => [some (.s a c'), some (.d (nt wd)), some (.d (rulesD rs)), some (.d (intsD ln)), some (.d (.list (xss.map intsD))), some (.l ((rs.map sp ++ (xss.take i).flatMap cyc).map pairD)), none, none, some (.d (intsD (xss.map fst1))), some (.d (intsD (xss.map lst1))), none, none, none, none]) (evi_list (evp_var 4)) ?_ (fun _ => rfl) (fun i x hx => ?_) ?_ PassesOwn.never rfl sc_w_blown.nd)
  · rw [List.take_zero, List.flatMap_nil, List.append_nil]
    rfl
  · have hxm := List.mem_of_getElem? hx
    have hx10 := hxl x hxm
    have hck := cycs_take xss i
    refine ex_one (e1_forG 12 (List.range (if decide (1 < x.length) = true then x.length else 0)) nt (fun j => [some (.s a c'), some (.d (nt wd)), some (.d (rulesD rs)), some (.d (intsD ln)), some (.d (.list (xss.map intsD))), some (.l ((rs.map sp ++ (xss.take i).flatMap cyc ++ (cyc x).take j).map pairD)), none, some (.d (intsD x)), some (.d (intsD (xss.map fst1))), some (.d (intsD (xss.map lst1))), none, none, none, none]) (evi_rngN T.range (evn_if (etn_gt (n := 1) (evn_lenI T.len (evp_var 7)) (evn_k 1)) (fun _ => evn_lenI T.len (evp_var 7)) (fun _ => evn_k 0)) (by split <;> omega)) ?_ (fun _ => rfl) (fun j t hj => ?_) ?_ PassesOwn.never rfl sc_w_blown.nd)
    · rw [List.take_zero, List.append_nil]
      rfl
    · have hjl := (List.getElem?_eq_some_iff.mp hj).1
      have hjt : t = j := by
        have := (List.getElem?_eq_some_iff.mp hj).2
        rw [List.getElem_range] at this
        exact this.symm
      subst hjt
      rw [List.length_range] at hjl
      have hx1 : 1 < x.length := by
        by_cases h : 1 < x.length
        · exact h
        · rw [decide_eq_false h] at hjl
          exact absurd hjl (by simp)
      rw [decide_eq_true hx1, if_pos rfl] at hjl
      have hmod : (t + 1) % x.length < x.length := Nat.mod_lt _ (by omega)
      have ht1 : x.getD t 0 < 10 := by
        rw [List.getD_eq_getElem?_getD, List.getElem?_eq_getElem hjl]
        exact hxt x hxm _ (List.getElem_mem hjl)
      have ht2 : x.getD ((t + 1) % x.length) 0 < 10 := by
        rw [List.getD_eq_getElem?_getD, List.getElem?_eq_getElem hmod]
        exact hxt x hxm _ (List.getElem_mem hmod)
      refine ex_one (e1_app 5 (evp_tup (eva_cons (evn_shl (evp_ixL (evp_var 7) (evp_var 12) (at_nt hjl)) (by omega)) (eva_1 (evn_shl (evp_ixL (evp_var 7) (evn_mod (by omega) (evp_intI T.int (evn_add (evp_var 12) (evn_k 1))) (evn_lenI T.len (evp_var 7))) (at_nt hmod)) (by omega))))) rfl ?_ ?_)
      · rw [List.length_map, List.length_append, List.length_append, List.length_map]
        have h1 : ((cyc x).take t).length ≤ 10 := Nat.le_trans (List.length_take_le' ..) (Nat.le_trans (cyc_len x) hx10)
        exact Nat.lt_of_le_of_lt (show _ ≤ 40 by omega) (by decide)
      · have hct : (cyc x)[t]? = some (2 ^ x.getD t 0, 2 ^ x.getD ((t + 1) % x.length) 0) := by
          unfold cyc
          rw [List.getElem?_map, hj]
          rfl
        rw [take_snoc hct, ← List.append_assoc, List.map_append (l₂ := [_])]
        rfl
    · have hcl : (cyc x).length = (List.range (if decide (1 < x.length) = true then x.length else 0)).length := by
        unfold cyc
        rw [List.length_map]
      rw [← hcl, List.take_length, flatMap_snoc hx, ← List.append_assoc]
      rfl
  rw [List.take_length]
  have hbl : (blw0 xss rs).length ≤ 18 := by
    unfold blw0
    rw [List.length_append, List.length_map]
    have := cycs_len xss
    omega
  refine ex_frz 5 rfl (ex_one (e1_ret (ev_lst (evae_cons (ev_p (evn_lenI T.len (evp_var 3)) (evae_cons (ev_callS Fm hr 0 rfl (evae_p (eva_1 (evp_var 5)) ⟨c', rfl, by omega, ⟨(blw0 xss rs).map pairD, by rw [List.length_map]; omega, rfl⟩, fun d hd => ?_⟩))))))))
  obtain ⟨xs, ys, e1, hpm, e2⟩ := hd
  obtain rfl : (blw0 xss rs).map pairD = xs := by simpa using e1
  obtain ⟨rs', hr', rfl⟩ := perm_map_inv hpm (blw0 xss rs) rfl
  subst e2
  refine evae_p (eva_1 (d := intsD (xss.map msk)) ?_) ⟨(show 3 ≤ sizeLine by decide), ⟨c' + 100, by omega, rfl⟩, wd, rs, ln.length, xss, rs', rfl, hl10, hp, hr', rfl⟩
  rw [show intsD (xss.map msk) = .list (xss.map fun x => nt (msk x)) by rw [intsD, List.map_map] <;> rfl]
  refine evf_p (evf_c1 sc_w_blown (lc1n 7 xss intsD (fun x => nt (msk x)) (evi_list (evp_var 4)) (by omega) (fun _ _ _ _ _ x hm => ?_)))
  refine evn_sum T.sum ?_
  rw [List.map_map]
  exact evf_p (evf_c1 sc_w_blown (lc1n 13 x nt (fun t => nt (2 ^ t)) (evi_list (evp_var 7)) (by have := hxl x hm; omega) (fun _ _ _ _ _ t ht => evn_shl (evp_var 13) (by have := hxt x hm t ht; omega))))
end
end Mt

set_option maxHeartbeats 4000000
namespace Mt
open PySem PySem.Spec PyProof.Rows L2
section
variable {X : Cx} {e : Expr} {Γ : Gm} {pos p : Pos} {x y z : Str} {O : Out}
/-- x, y, z = a list of three -/
theorem e1_unL3 {i j l : Nat} {px py pz pt : Pos} {kt : Nat} (he : Ev X e Γ fun d Γ' => ∃ d1 d2 d3, d = .list [d1, d2, d3] ∧ O.N (((Γ'.set i (some (.d d1))).set j (some (.d d2))).set l (some (.d d3)))) (hc : X.calm = true)
    (hq1 : PGs X [.Name x px, .Name y py, .Name z pz] (gCons (gName i) (gCons (gName j) (gCons (gName l) gNil))))
    (hn : (assignEach [.Name x px, .Name y py, .Name z pz] X.env).length = 3 := by rfl) (hst : (assignEach [.Name x px, .Name y py, .Name z pz] X.env).findIdx? (·.1) = none := by rfl)
    (hs : swapsWithSole [.Tuple [.Name x px, .Name y py, .Name z pz] kt pt] e pos.line X.env = pure false := by rfl) (hw : swappedStores [.Tuple [.Name x px, .Name y py, .Name z pz] kt pt] e X.env = pure none := by rfl) :
    E1 X (.Assign [.Tuple [.Name x px, .Name y py, .Name z pz] kt pt] e pos) Γ O := fun B F σ H D g w =>
  sS_of (ps_asg pe_s (pg_unl hc hq1 hn hst) hs hw) (he B F σ H _ g fun v H1 F1 Γ1 d s1 g1 q ⟨d1, d2, d3, e1, z⟩ => by
    subst e1
    obtain ⟨a, vs, rfl, h1, h2⟩ := dp_list q
    cases h2 with
    | cons p1 h2 =>
      cases h2 with
      | cons p2 h2 =>
        obtain ⟨v3, rfl, p3⟩ := dps_one' h2
        have st : ∀ {F : Nat → List Addr} {i : Nat}, Same (hid (hd B F) H1) (hid (hd B (upF F i [])) H1) := fun {F i} => Step.stab step_drop
        have q2' := dp_mono (st (i := i)) _ p2
        have q3' := dp_mono (st (i := j)) _ (dp_mono (st (i := i)) _ p3)
        exact ⟨a, _, rfl, hid_le.seq h1, rfl, _, _, rfl, _, _, rfl, _, _, rfl, rfl, w.nx _ _ H1 _ (s1.trans (step_drop.trans (step_drop.trans step_drop))) (((g1.set i p1).set j q2').set l q3') z⟩)
/-- x, y = a list of two -/
theorem e1_unL2 {i j : Nat} {px py pt : Pos} {kt : Nat} (he : Ev X e Γ fun d Γ' => ∃ d1 d2, d = .list [d1, d2] ∧ O.N ((Γ'.set i (some (.d d1))).set j (some (.d d2)))) (hc : X.calm = true)
    (hq1 : PGs X [.Name x px, .Name y py] (gCons (gName i) (gCons (gName j) gNil)))
    (hn : (assignEach [.Name x px, .Name y py] X.env).length = 2 := by rfl) (hst : (assignEach [.Name x px, .Name y py] X.env).findIdx? (·.1) = none := by rfl)
    (hs : swapsWithSole [.Tuple [.Name x px, .Name y py] kt pt] e pos.line X.env = pure false := by rfl) (hw : swappedStores [.Tuple [.Name x px, .Name y py] kt pt] e X.env = pure none := by rfl) :
    E1 X (.Assign [.Tuple [.Name x px, .Name y py] kt pt] e pos) Γ O := fun B F σ H D g w =>
  sS_of (ps_asg pe_s (pg_unl hc hq1 hn hst) hs hw) (he B F σ H _ g fun v H1 F1 Γ1 d s1 g1 q ⟨d1, d2, e1, z⟩ => by
    subst e1
    obtain ⟨a, vs, rfl, h1, h2⟩ := dp_list q
    cases h2 with
    | cons p1 h2 =>
      obtain ⟨v3, rfl, p2⟩ := dps_one' h2
      have st : ∀ {F : Nat → List Addr} {i : Nat}, Same (hid (hd B F) H1) (hid (hd B (upF F i [])) H1) := fun {F i} => Step.stab step_drop
      have q2' := dp_mono (st (i := i)) _ p2
      exact ⟨a, _, rfl, hid_le.seq h1, rfl, _, _, rfl, _, _, rfl, rfl, w.nx _ _ H1 _ (s1.trans (step_drop.trans step_drop)) ((g1.set i p1).set j q2') z⟩)
end
/-! ### a book and its closed lots -/
def cl0 (n : Nat) (rs : List Ru) : List Nat := (List.range (2 ^ n)).filter (kept rs)
def srtN (l : List Nat) : List Nat := l.mergeSort (fun a b => decide (a ≤ b))
def Bok (n : Nat) (rs : List Ru) (fam : List Nat) : Prop := (n ≤ 5 ∧ rs.length ≤ 8 ∧ okR n rs ∧ fam = cl0 n rs) ∨
  ∃ w rs0 xss, w ≤ 5 ∧ rs0.length ≤ 8 ∧ okR w rs0 ∧ n ≤ 10 ∧ Part w n xss ∧ rs.Perm (blw0 xss rs0) ∧ fam = srtN ((cl0 w rs0).map (sprd (xss.map msk)))
def preK (ds : List PyData) : Prop := ds = []
def postK (ds : List PyData) (d : PyData) : Prop := ∃ n rs fam, Bok n rs fam ∧ d = .list [bookD n rs, intsD fam]
theorem srtN_pw (l : List Nat) : (srtN l).Pairwise (· ≤ ·) := by
  have := List.pairwise_mergeSort (le := fun a b : Nat => decide (a ≤ b)) (fun a b c h1 h2 => by simp at h1 h2 ⊢; omega) (fun a b => by simp; omega) l
  exact this.imp fun h => of_decide_eq_true h
theorem srt_uniq (l : List Nat) (ks : List Int) (hp : ks.Perm (l.map fun (n : Nat) => ((n : Nat) : Int))) (hw : ks.Pairwise (· ≤ ·)) : ks = (srtN l).map fun (n : Nat) => ((n : Nat) : Int) := by
  refine List.Perm.eq_of_pairwise (le := fun a b : Int => a ≤ b) (fun a b _ _ h1 h2 => by omega) hw ?_ (hp.trans ((List.mergeSort_perm l _).symm.map _))
  rw [List.pairwise_map]
  exact (srtN_pw l).imp fun h => by omega
theorem evp_sortN {X : Cx} {e : Expr} {Γ : Gm} {p pos : Pos} {l : List Nat} (hm : X.mg "sorted" = none) (ha : EvP X e Γ (intsD l)) (hg : Gl X "sorted" := by rfl) (hs : starEach [e] X.env = (false, eval e X.env) :: starEach [] X.env := by rfl) : EvP X (.Call (.Name "sorted" p) [e] [] pos) Γ (intsD (srtN l)) := by
  rw [intsD, map_nt]
  rw [intsD, map_nt] at ha
  exact evf_p (evf_sortI hm ha (fun ks h1 h2 => srt_uniq _ ks h1 h2) hg hs)
section
variable {P : Program} {w : World} {K : PySem.W.Frag} {mg : Str → Option Value} {base : Heap} {f : Addr} {fd : FuncData}
abbrev nBk : List Str := ["_law_spring_here", "_law_wide", "_law_needs_here", "_law_family", "_law_more", "_law_images", "_law_mask_here"]
theorem sc_w_book : FnScope nBk ["_law_spring_here"] (defScope s_w_book) := ⟨rfl, rfl, rfl, by decide +kernel, rfl, by decide +kernel, by decide +kernel⟩
theorem ok_w_book (F : Fun K "_law_book" "_law_book" s_w_book f fd) (T : Mg mg) (Fd : FnP P w K mg base 1 "_law_draw" ["_law_spring_here", "_law_many"] (spS K 1 preD postD)) (Fp : FnP P w K mg base 2 "_law_pick" ["_law_spring_here", "_law_items"] (spS K 1 preP postP))
    (Fn : FnP P w K mg base 3 "_law_needs" ["_law_spring_here", "_law_wide"] (spS K 200 preN postN)) (Fc : FnP P w K mg base 1 "_law_closed" ["_law_wide", "_law_needs_here"] (spP K R_w_closed)) (Ft : FnP P w K mg base 2 "_law_tome" ["_law_wide", "_law_needs_here"] (spP K R_w_tome))
    (Fb : FnP P w K mg base 3 "_law_blown" ["_law_spring_here", "_law_wide", "_law_needs_here"] (spS K 300 preB postB)) (Fs : FnP P w K mg base 1 "_law_spread" ["_law_images", "_law_mask_here"] (spP K R_w_spread)) : FnOk P w K mg base CX0 4 f fd ["_law_spring_here"] (spS K 600 preK postK) := by
  refine fun_spr F sc_w_book (fun ds e => by rw [show ds = [] from e]; rfl) (fun cdv A outer s H E hr a n ds hn e1 => ?_)
  obtain rfl : ds = [] := e1
  refine ex_cons (e1_set 1 (ev_callS Fp (hr.mono (by decide)) 0 rfl (evae_p (eva_1 (evf_p (evf_lst (ds := [nt 0, nt 1, nt 2, nt 3, nt 3, nt 4, nt 4, nt 5, nt 5]) (eva_cons (evn_k 0) (eva_cons (evn_k 1) (eva_cons (evn_k 2) (eva_cons (evn_k 3) (eva_cons (evn_k 3) (eva_cons (evn_k 4) (eva_cons (evn_k 4) (eva_cons (evn_k 5) (eva_1 (evn_k 5))))))))))))) ⟨n, rfl, by omega, ⟨_, by simp, by simp, rfl⟩, fun d ⟨xs, e1, hd⟩ => ?_⟩)) sc_w_book.nd)
  obtain rfl : [nt 0, nt 1, nt 2, nt 3, nt 3, nt 4, nt 4, nt 5, nt 5] = xs := by simpa using e1
  obtain ⟨wd, hw, rfl⟩ : ∃ k : Nat, k ≤ 5 ∧ d = nt k := by
    simp only [List.mem_cons, List.not_mem_nil, or_false] at hd
    rcases hd with rfl | rfl | rfl | rfl | rfl | rfl | rfl | rfl | rfl
    · exact ⟨0, by omega, rfl⟩
    · exact ⟨1, by omega, rfl⟩
    · exact ⟨2, by omega, rfl⟩
    · exact ⟨3, by omega, rfl⟩
    · exact ⟨3, by omega, rfl⟩
    · exact ⟨4, by omega, rfl⟩
    · exact ⟨4, by omega, rfl⟩
    · exact ⟨5, by omega, rfl⟩
    · exact ⟨5, by omega, rfl⟩
  refine ex_cons (e1_set 2 (ev_callS Fn hr 0 rfl (evae_p (eva_1 (evp_var 1)) ⟨n + 1, rfl, by omega, ⟨wd, hw, rfl⟩, fun d ⟨w', rs, e1, hrs, hok, e2⟩ => ?_⟩)) sc_w_book.nd)
  obtain rfl : wd = w' := one_inj e1
  subst e2
  refine ex_cons (e1_set 3 (ev_p (evp_call Fc (hr.mono (by decide)) ⟨wd, rs, by omega, by omega, rfl, rfl⟩ (eva_cons (evp_var 1) (eva_1 (evp_var 2)))) ?_) sc_w_book.nd)
  refine ex_seq (fun Γ => Γ = [some (.s a (n + 1 + 200 + 1)), some (.d (nt wd)), some (.d (rulesD rs)), some (.d (intsD (cl0 wd rs))), none, none, none]) (e1_ifE (et_cmp op_gt (ev_callS Fd (hr.mono (by decide)) 0 rfl (evae_p (eva_1 (evn_k 3)) ⟨n + 1 + 200, rfl, by omega, ⟨3, by decide, by decide, rfl⟩, fun d ⟨m', r, e1, hr', e2⟩ => ev_p (evn_k 0) ⟨(r : Int), ((0 : Nat) : Int), e2, rfl, ?_⟩⟩)))) (fun Γ e => ?_)
  · cases decide (((0 : Nat) : Int) < (r : Int)) with
    | true =>
      refine iteT (ex_one (e1_ret (ev_p (evf_p (evf_lst (eva_cons (evp_call Ft (hr.mono (by decide)) ⟨wd, rs, by omega, rfl, rfl⟩ (eva_cons (evp_var 1) (eva_1 (evp_var 2)))) (eva_1 (evp_var 3))))) ⟨⟨_, by omega, rfl⟩, wd, rs, cl0 wd rs, .inl ⟨hw, hrs, hok, rfl⟩, rfl⟩)))
    | false => exact iteF (ex_nil rfl)
  · subst e
    refine ex_cons (e1_unL3 (i := 4) (j := 2) (l := 5) (ev_callS Fb hr 0 rfl (evae_p (eva_cons (evp_var 1) (eva_1 (evp_var 2))) ⟨n + 1 + 200 + 1, rfl, by omega, ⟨wd, rs, hw, hrs, rfl⟩, fun d ⟨w', rs0, L, xss, rs', e1, hL, hp, hpm, e2⟩ => ⟨_, _, _, e2, ?_⟩⟩)) rfl (pgs_cons (pg_name (i := 4) sc_w_book.nd rfl (by first | exact .inl rfl | exact .inr rfl)) (pgs_cons (pg_name (i := 2) sc_w_book.nd rfl (by first | exact .inl rfl | exact .inr rfl)) (pgs_cons (pg_name (i := 5) sc_w_book.nd rfl (by first | exact .inl rfl | exact .inr rfl)) pgs_nil))))
    have e3 : wd = w' ∧ rulesD rs = rulesD rs0 := by
      injection e1 with h1 h2
      injection h2 with h2 h3
      exact ⟨nt_inj h1, h2⟩
    obtain rfl := e3.1
    have hrr : rs = rs0 := by
      have : ∀ l m : List Ru, l.map (fun r => PyData.tuple [nt r.1, nt r.2]) = m.map (fun r => PyData.tuple [nt r.1, nt r.2]) → l = m := by
        intro l
        induction l with
        | nil => intro m h; cases m with
          | nil => rfl
          | cons _ _ => simp at h
        | cons x l ih =>
          intro m h
          cases m with
          | nil => simp at h
          | cons y m =>
            rw [List.map_cons, List.map_cons] at h
            injection h with h1 h2
            injection h1 with h1
            injection h1 with h3 h4
            injection h4 with h4 _
            rw [ih m h2, show x = y from Prod.ext (nt_inj h3) (nt_inj h4)]
      exact this _ _ (PyData.list.inj e3.2)
    subst hrr
    have hl' : rs'.length ≤ 1000 := by
      rw [hpm.length_eq]
      unfold blw0
      rw [List.length_append, List.length_map]
      have := cycs_len xss
      rw [hp.perm.length_eq, List.length_range] at this
      omega
    refine ex_one (e1_ret (ev_p (evf_p (evf_lst (eva_cons (evp_call Ft (hr.mono (by decide)) ⟨L, rs', hl', rfl, rfl⟩ (eva_cons (evp_var 4) (eva_1 (evp_var 2)))) (eva_1 (d := intsD (srtN ((cl0 wd rs).map (sprd (xss.map msk))))) ?_)))) ⟨⟨_, by omega, rfl⟩, L, rs', _, .inr ⟨wd, rs, xss, hw, hrs, hok, hL, hp, hpm, rfl⟩, rfl⟩))
    refine evp_sortN T.sorted ?_
    rw [show intsD ((cl0 wd rs).map (sprd (xss.map msk))) = .list ((cl0 wd rs).map fun m => nt (sprd (xss.map msk) m)) by rw [intsD, List.map_map] <;> rfl]
    refine evf_p (evf_c1 sc_w_book (lc1n 6 (cl0 wd rs) nt (fun m => nt (sprd (xss.map msk) m)) (evi_list (evp_var 3)) ?_ (fun _ _ _ _ _ m _ => evp_call Fs (hr.mono (by decide)) ⟨xss.map msk, m, by rw [List.length_map, hp.len]; omega, rfl, rfl⟩ (eva_cons (evp_var 5) (eva_1 (evp_var 6))))))
    refine Nat.le_trans (List.length_filter_le ..) ?_
    rw [List.length_range]
    exact Nat.le_trans (Nat.pow_le_pow_right (show 0 < 2 by decide) hw) (by decide)
end
end Mt

set_option maxHeartbeats 1000000
namespace Mt
open PySem PySem.Spec PyProof.Rows L2
/-! ### data that repr shows, in bounds -/
structure Rp (h k : Nat) (d : PyData) : Prop where
  sh : d.showable = true
  nd : d.hasDict = false
  dp : d.depth ≤ h
  ln : d.shown.length ≤ k
structure Rps (h k : Nat) (ds : List PyData) : Prop where
  sh : PyData.showableAll ds = true
  nd : PyData.hasDictAll ds = false
  dp : PyData.depthAll ds ≤ h
  ln : piled (PyData.shownAll ds) ≤ k
theorem textFrom_le : ∀ (ts : List Str) (k : Nat) (acc : Str), (textFrom k acc ts).length ≤ acc.length + piled ts
  | [], k, acc => by show acc.length ≤ acc.length + piled []; omega
  | t :: r, k, acc => by
    have h := textFrom_le r (k + 1) (acc ++ (if k > 0 then ", " else "" : String) ++ t)
    have e : (acc ++ (if k > 0 then ", " else "" : String) ++ t).length = acc.length + (if k > 0 then 2 else 0) + t.length := by
      rw [strLen_append, strLen_append]
      split <;> rfl
    rw [e] at h
    rw [piled_cons]
    show (textFrom (k + 1) _ r).length ≤ _
    have d2 : (if k > 0 then 2 else 0 : Nat) ≤ 2 := by split <;> omega
    omega
theorem rp_list {h k : Nat} {ds : List PyData} (a : Rps h k ds) : Rp (h + 1) (k + 4) (.list ds) := by
  refine ⟨by rw [PyData.showable]; exact a.sh, by rw [PyData.hasDict]; exact a.nd, by rw [PyData.depth]; have := a.dp; omega, ?_⟩
  rw [PyData.shown, listText, strLen_append]
  have h1 := textFrom_le (PyData.shownAll ds) 0 "["
  have e1 : ((("[" : String) : Str)).length = 1 := rfl
  have e2 : ((("]" : String) : Str)).length = 1 := rfl
  rw [e1] at h1
  rw [e2]
  have := a.ln
  omega
theorem rp_tup {h k : Nat} {ds : List PyData} (a : Rps h k ds) : Rp (h + 1) (k + 4) (.tuple ds) := by
  refine ⟨by rw [PyData.showable]; exact a.sh, by rw [PyData.hasDict]; exact a.nd, by rw [PyData.depth]; have := a.dp; omega, ?_⟩
  rw [PyData.shown, tupleText, strLen_append, strLen_append]
  have e1 : ((("(" : String) : Str)).length = 1 := rfl
  rw [e1]
  have e3 : (((if (PyData.shownAll ds).length == 1 then ",)" else ")" : String) : Str)).length ≤ 2 := by split <;> decide
  have h2 : (Str.join ", " (PyData.shownAll ds)).length ≤ piled (PyData.shownAll ds) := by
    by_cases e : PyData.shownAll ds = []
    · rw [e]
      exact Nat.zero_le _
    · have := join_length_add _ e
      omega
  have := a.ln
  omega
theorem rps_nil {h k : Nat} : Rps h k [] := ⟨rfl, rfl, by simp [PyData.depthAll], by rw [PyData.shownAll, piled_nil]; omega⟩
theorem rps_cons {h k m : Nat} {d : PyData} {ds : List PyData} (a : Rp h k d) (b : Rps h m ds) : Rps h (k + 2 + m) (d :: ds) := by
  refine ⟨by rw [PyData.showableAll, a.sh, b.sh]; rfl, by rw [PyData.hasDictAll, a.nd, b.nd]; rfl, ?_, ?_⟩
  · rw [PyData.depthAll]
    have := a.dp
    have := b.dp
    omega
  · rw [PyData.shownAll, piled_cons]
    have := a.ln
    have := b.ln
    omega
theorem rps_map {α : Type} {h k : Nat} {f : α → PyData} : ∀ (l : List α), (∀ x ∈ l, Rp h k (f x)) → Rps h (l.length * (k + 2)) (l.map f)
  | [], _ => by simpa using rps_nil
  | x :: l, a => by
    have := rps_cons (a x List.mem_cons_self) (rps_map l fun y hy => a y (List.mem_cons_of_mem _ hy))
    rw [List.map_cons, List.length_cons, Nat.succ_mul, Nat.add_comm]
    exact this
theorem Rp.mono {h h' k k' : Nat} {d : PyData} (a : Rp h k d) (h1 : h ≤ h') (h2 : k ≤ k') : Rp h' k' d := ⟨a.sh, a.nd, Nat.le_trans a.dp h1, Nat.le_trans a.ln h2⟩
theorem Rps.mono {h h' k k' : Nat} {d : List PyData} (a : Rps h k d) (h1 : h ≤ h') (h2 : k ≤ k') : Rps h' k' d := ⟨a.sh, a.nd, Nat.le_trans a.dp h1, Nat.le_trans a.ln h2⟩
theorem rp_nt {n : Nat} (h : n ≤ 10) : Rp 1 4 (nt n) := by
  have k : ∀ n, n ≤ 10 → (nt n).showable = true ∧ (nt n).shown.length ≤ 4 := by decide +kernel
  exact ⟨(k n h).1, rfl, by simp [PyData.depth], (k n h).2⟩
theorem rp_none : Rp 1 4 .none := ⟨rfl, rfl, by simp [PyData.depth], by decide⟩
theorem rp_lot (b : Nat) : Rp 2 64 (lotM b) := by
  refine (rp_tup ((rps_map (h := 1) (k := 4) (lotOf b) fun x hx => rp_nt (by have := (mem_lotOf.mp hx).1; omega)).mono (Nat.le_refl _) ?_)).mono (by decide) (Nat.le_refl 64)
  have := lotOf_len b
  omega
theorem rp_lots {ls : List Nat} (h : ls.length ≤ 2000) : Rp 3 140000 (lotsD ls) := by
  refine (rp_tup ((rps_map (h := 2) (k := 64) ls fun b _ => rp_lot b).mono (k' := 132000) (Nat.le_refl _) ?_)).mono (by decide) (by decide)
  omega
theorem rp_one {t : Nat} (h : t ≤ 10) : Rp 2 10 (.tuple [nt t]) := (rp_tup (rps_cons (rp_nt h) rps_nil : Rps 1 (4 + 2 + 0) _)).mono (by decide) (by decide)
/-- the size that repr can take -/
theorem rp_fin {h k : Nat} {d : PyData} (a : Rp h k d) (h1 : h ≤ 60) (h2 : k ≤ 16000000) : d.showable = true ∧ d.hasDict = false ∧ d.depth ≤ 60 ∧ d.shown.length ≤ sizeLine := ⟨a.sh, a.nd, Nat.le_trans a.dp h1, Nat.le_trans (Nat.le_trans a.ln h2) (by decide)⟩
/-- repr(e) -/
theorem evp_repr1 {X : Cx} {e : Expr} {Γ : Gm} {p pos : Pos} {d : PyData} {ds : List PyData} {h k : Nat} (hg : X.A.guards = some []) (hu : X.A.units + 64 < cLine) (hm : X.mg "repr" = none) (ha : EvP X e Γ d) (hd : d = .list ds ∨ d = .tuple ds) (r : Rp h k d) (h1 : h ≤ 60) (h2 : k ≤ 16000000)
    (hgl : Gl X "repr" := by rfl) (hs : starEach [e] X.env = (false, eval e X.env) :: starEach [] X.env := by rfl) : EvP X (.Call (.Name "repr" p) [e] [] pos) Γ (.str d.shown) := by
  have q := rp_fin r h1 h2
  exact evp_repr hg hu hm ha (by
    rcases hd with hd | hd
    · exact .inl ⟨ds, hd⟩
    · exact .inr ⟨ds, hd⟩) q.1 q.2.1 q.2.2.1 q.2.2.2 hgl hs
end Mt

set_option maxHeartbeats 4000000
namespace Mt
open PySem PySem.Spec PyProof.Rows L2
/-! ### is_found -/
def wtops (fam : List Nat) (t : Nat) : List Nat := gre (fam.filter fun m => !m.testBit t)
def lacks (fam : List Nat) (t : Nat) : List Nat := (wtops fam t).map fun m => fam.getLastD 0 - m - 2 ^ t
abbrev dueR (t : Nat) (ls : List Nat) : PyData := .tuple (ls.map fun b => .tuple [lotM b, .tuple [nt t]])
structure Fnd (n : Nat) (rs : List Ru) (fam : List Nat) (t : Nat) : Prop where
  bk : Bk n rs
  tn : t < n
  ne : fam ≠ []
  len : fam.length ≤ 2000
  fit : ∀ m ∈ wtops fam t, m + 2 ^ t ≤ fam.getLastD 0
  tp : ord (wtops fam t) = tops n rs t
  tr : ord (stpsB (lacks fam t)) = hit n (rests n rs t)
theorem shp_lot (l : List Nat) : shp 2 (lotD l) := shp_tup (shps_map l fun _ _ => shp_int _)
theorem rp_rules {t : Nat} {ls : List Nat} (ht : t ≤ 10) (h : ls.length ≤ 2000) : Rp 4 200000 (dueR t ls) := by
  refine (rp_tup ((rps_map (h := 3) (k := 84) ls fun b _ => ?_).mono (k' := 172000) (Nat.le_refl _) ?_)).mono (by decide) (by decide)
  · exact (rp_tup (rps_cons (rp_lot b) (rps_cons (rp_one ht) rps_nil) : Rps 2 (64 + 2 + (10 + 2 + 0)) _)).mono (by decide) (by decide)
  · omega
theorem hitLen {n : Nat} (hn : n ≤ 10) (ls : List Nat) : (hit n ls).length ≤ 2000 := by
  have h : ∀ (ms : List Nat) (ne acc : List Nat), (ms.foldl (hitF ne) acc).length ≤ acc.length + ms.length := by
    intro ms
    induction ms with
    | nil => intro ne acc; exact Nat.le_refl _
    | cons m ms ih =>
      intro ne acc
      rw [List.foldl_cons, List.length_cons]
      refine Nat.le_trans (ih _ _) ?_
      unfold hitF
      split
      · omega
      · split
        · rw [List.length_append, List.length_singleton]; omega
        · omega
  have h1 := h (ord (List.range (2 ^ n))) (lst ls) []
  rw [ord_len, List.length_range] at h1
  have := pow10 hn
  unfold hit
  simp at h1
  omega
section
variable {P : Program} {w : World} {K : PySem.W.Frag} {mg : Str → Option Value} {base : Heap} {f : Addr} {fd : FuncData}
abbrev nFo : List Str := ["_law_tome_here", "_law_family", "_law_one", "_law_tops", "_law_aheads", "_law_due", "_law_told", "_law_named", "_law_mask_here", "_law_top", "_law_own"]
theorem sc_w_is_found : FnScope nFo ["_law_tome_here", "_law_family", "_law_one"] (defScope s_w_is_found) := ⟨rfl, rfl, rfl, by decide +kernel, rfl, by decide +kernel, by decide +kernel⟩
def R_w_is_found (ds : List PyData) (d : PyData) : Prop := ∃ n rs fam t, Fnd n rs fam t ∧ ds = [bookD n rs, intsD fam, nt t] ∧ d = .bool true
theorem ok_w_is_found (F : Fun K "_law_is_found" "_law_is_found" s_w_is_found f fd) (T : Mg mg) (Fg : FnP P w K mg base 1 "_law_greatest" ["_law_masks"] (spP K R_w_greatest)) (Fb : FnP P w K mg base 1 "_law_by_steps" ["_law_masks"] (spP K R_w_by_steps)) (Fl : FnP P w K mg base 4 "_law_lots" ["_law_masks"] (spP K R_w_lots))
    (Fw : FnP P w K mg base 8 "greatest_without" ["book", "thing"] (spP K R_greatest_without)) (Fr : FnP P w K mg base 8 "rules_for" ["book", "thing"] (spP K R_rules_for)) (Kw : FnK P w K mg base 8 "greatest_without" "book" "thing" (spP K R_greatest_without)) (Kr : FnK P w K mg base 8 "rules_for" "book" "thing" (spP K R_rules_for)) :
    FnG P w K mg base 9 f fd ["_law_tome_here", "_law_family", "_law_one"] (spP K R_w_is_found) := by
  refine fun_pureG F sc_w_is_found (fun ds d ⟨_, _, _, _, _, e, _⟩ => by rw [e]; rfl) (fun cdv A outer s H E hr hgd ds d ⟨n, rs, fam, t, hf, e1, e2⟩ => ?_)
  subst e1 e2
  have ht10 : t ≤ 10 := by have := hf.tn; have := hf.bk.n10; omega
  have hwl : (wtops fam t).length ≤ 2000 := Nat.le_trans (List.length_filter_le ..) (Nat.le_trans (List.length_filter_le ..) hf.len)
  refine ex_cons (e1_set 3 (ev_p (evp_call Fg (hr.mono (by decide)) ⟨fam.filter fun m => !m.testBit t, Nat.le_trans (List.length_filter_le ..) (Nat.le_trans hf.len (by decide)), rfl, rfl⟩ (eva_1 (evf_p (evf_c1 sc_w_is_found (lc1 8 fam nt (fun m => !m.testBit t) nt (evi_list (evp_var 1)) (Nat.le_trans hf.len (by decide))
    (fun _ _ _ _ _ m _ => evc_one (etn_bit0 (evp_var 8) (evp_var 2))) (fun _ _ _ _ _ m _ _ => evp_var 8)))))) ?_) sc_w_is_found.nd)
  have hlast : atI (fam.map nt) (-1) = some (nt (fam.getLastD 0)) := at_last hf.ne
  refine ex_cons (e1_set 4 (ev_p (evp_call Fb (hr.mono (by decide)) ⟨lacks fam t, rfl, rfl⟩ (eva_1 ?_)) ?_) sc_w_is_found.nd)
  · rw [show intsD (lacks fam t) = .list ((wtops fam t).map fun m => nt (fam.getLastD 0 - m - 2 ^ t)) by rw [intsD, lacks, List.map_map] <;> rfl]
    exact evf_p (evf_c1 sc_w_is_found (lc1n 9 (wtops fam t) nt (fun m => nt (fam.getLastD 0 - m - 2 ^ t)) (evi_list (evp_var 3)) (Nat.le_trans hwl (by decide)) (fun _ _ _ _ _ m hm => by
      have := hf.fit m hm
      have hp := Nat.two_pow_pos t
      exact evn_sub (by omega) (evn_sub (by omega) (evp_ixL (evp_var 1) (evp_un un_neg evp_int) hlast) (evp_var 9)) (evn_shl (evp_var 2) (by omega)))))
  have hfw := stpsB_few (lacks fam t)
  have hfl := hfw.len
  refine ex_cons (e1_set 5 (ev_p (evf_p (evf_lst (ds := [lotsD (tops n rs t), dueR t (hit n (rests n rs t))]) (eva_cons ?_ (eva_1 (evp_tupL T.tuple (evf_p (evf_c1 sc_w_is_found (k := 10) ?_))))))) ?_) sc_w_is_found.nd)
  · rw [← hf.tp]
    exact evp_call Fl (hr.mono (by decide)) ⟨wtops fam t, Nat.le_trans hwl (by decide), rfl, rfl⟩ (eva_1 (evp_var 3))
  · rw [← hf.tr]
    exact lc1n 10 (ord (stpsB (lacks fam t))) lotM (fun b => .tuple [lotM b, .tuple [nt t]]) (evi_tup (evp_call Fl (hr.mono (by decide)) ⟨stpsB (lacks fam t), by omega, rfl, rfl⟩ (eva_1 (evp_var 4)))) (by rw [ord_len]; omega) (fun _ _ _ _ _ b _ => evp_tup (eva_cons (evp_var 10) (eva_1 (evp_tup (eva_1 (evp_var 2))))))
  refine ex_cons (e1_set 6 (ev_p (evf_p (evf_lst (ds := [lotsD (tops n rs t), dueR t (hit n (rests n rs t))]) (eva_cons (evp_call Fw hr ⟨n, rs, t, hf.bk, rfl, rfl⟩ (eva_cons (evp_var 0) (eva_1 (evp_var 2)))) (eva_1 (evp_call Fr hr ⟨n, rs, t, hf.bk, hf.tn, rfl, rfl⟩ (eva_cons (evp_var 0) (eva_1 (evp_var 2)))))))) ?_) sc_w_is_found.nd)
  refine ex_cons (e1_set 7 (ev_p (evf_p (evf_lst (ds := [lotsD (tops n rs t), dueR t (hit n (rests n rs t))]) (eva_cons (evp_callK2 Kw hr ⟨n, rs, t, hf.bk, rfl, rfl⟩ (evp_var 2) (evp_var 0)) (eva_1 (evp_callK2 Kr hr ⟨n, rs, t, hf.bk, hf.tn, rfl, rfl⟩ (evp_var 2) (evp_var 0)))))) ?_) sc_w_is_found.nd)
  have htl : (tops n rs t).length ≤ 2000 := by rw [← hf.tp, ord_len]; exact hwl
  have r1 : Rp 6 700000 (.list [lotsD (tops n rs t), dueR t (hit n (rests n rs t))]) := (rp_list (rps_cons ((rp_lots htl).mono (h' := 4) (by decide) (Nat.le_refl _)) (rps_cons (rp_rules ht10 (hitLen hf.bk.n10 _)) rps_nil) : Rps 4 (140000 + 2 + (200000 + 2 + 0)) _)).mono (by decide) (by decide)
  have r2 : Rp 7 1500000 (.list [.list [lotsD (tops n rs t), dueR t (hit n (rests n rs t))], .list [lotsD (tops n rs t), dueR t (hit n (rests n rs t))]]) := (rp_list (rps_cons r1 (rps_cons r1 rps_nil) : Rps 6 (700000 + 2 + (700000 + 2 + 0)) _)).mono (by decide) (by decide)
  refine ex_one (e1_ret (ev_p (evp_eqS (evp_repr1 hgd (un64 hr) T.repr (evf_p (evf_lst (eva_cons (evp_var 6) (eva_1 (evp_var 7))))) (.inl rfl) r2 (by decide) (by decide)) (evp_repr1 hgd (un64 hr) T.repr (evf_p (evf_lst (eva_cons (evp_var 5) (eva_1 (evp_var 5))))) (.inl rfl) r2 (by decide) (by decide))) ?_))
  rw [decide_eq_true rfl]
  rfl
end
end Mt

set_option maxHeartbeats 4000000
namespace Mt
open PySem PySem.Spec PyProof.Rows L2
theorem range_filter (n k : Nat) (p : Nat → Bool) : (List.range (n + k)).filter (fun x => decide (x < n) && p x) = (List.range n).filter p := by
  induction k with
  | zero =>
    rw [Nat.add_zero]
    refine List.filter_congr fun x hx => ?_
    rw [decide_eq_true (List.mem_range.mp hx), Bool.true_and]
  | succ k ih =>
    rw [Nat.add_succ, List.range_succ, List.filter_append, ih]
    have : ¬ n + k < n := by omega
    simp [this]
theorem lot_of_filter {n m : Nat} (hn : n ≤ 10) (p : Nat → Bool) (h : ∀ x, x < 10 → m.testBit x = (decide (x < n) && p x)) : lotOf m = (List.range n).filter p := by
  have e : 10 = n + (10 - n) := by omega
  have h1 := range_filter n (10 - n) p
  rw [← e] at h1
  rw [← h1]
  unfold lotOf
  exact List.filter_congr fun x hx => h x (List.mem_range.mp hx)
theorem whole_bit' (n x : Nat) : (2 ^ n - 1).testBit x = decide (x < n) := Nat.testBit_two_pow_sub_one n x
theorem rest_filter {n t b : Nat} (hn : n ≤ 10) : (List.range n).filter (fun x => !decide (x = t) && !decide (x ∈ lotOf b)) = lotOf (sd (sd (2 ^ n - 1) (2 ^ t)) b) := by
  refine (lot_of_filter hn _ fun x hx => ?_).symm
  rw [sd_bit, sd_bit, whole_bit', Nat.testBit_two_pow, Bool.and_assoc]
  congr 1
  congr 1
  · rw [show decide (t = x) = decide (x = t) by
      by_cases h : t = x
      · rw [h]
      · rw [decide_eq_false h, decide_eq_false (fun z => h z.symm)]]
  · congr 1
    cases e : b.testBit x
    · exact (decide_eq_false fun z => by rw [(mem_lotOf.mp z).2] at e; cases e).symm
    · exact (decide_eq_true (mem_lotOf.mpr ⟨hx, e⟩)).symm
theorem comp_filter {n b : Nat} (hn : n ≤ 10) : (List.range n).filter (fun x => !decide (x ∈ lotOf b)) = lotOf (sd (2 ^ n - 1) b) := by
  refine (lot_of_filter hn _ fun x hx => ?_).symm
  rw [sd_bit, whole_bit]
  congr 1
  congr 1
  cases e : b.testBit x
  · exact (decide_eq_false fun z => by rw [(mem_lotOf.mp z).2] at e; cases e).symm
  · exact (decide_eq_true (mem_lotOf.mpr ⟨hx, e⟩)).symm
theorem evp_isnil1 {X : Cx} {a : Expr} {Γ : Gm} {pos p2 : Pos} {α : Type} (l : List α) (t : α → Bool) (hu : X.A.units + 64 < cLine) (ha : EvP X a Γ (.list ((l.filter t).map fun _ => nt 1))) : EvP X (.Compare a [.Eq] [.List [] p2] pos) Γ (.bool (l.all fun x => !t x)) := by
  rw [ones] at ha
  have h := evp_eqD (pos := pos) hu ha (evf_p (evf_lst (pos := p2) eva_nil)) (shaped_ints _) (shaped_ints [])
  rw [eqv_nil] at h
  rw [← ones_nil]
  have : ∀ l : List Nat, (l.map nt).isEmpty = l.isEmpty := fun l => by cases l <;> rfl
  rw [this] at h
  exact h
structure Hit (n : Nat) (rs : List Ru) (t : Nat) : Prop where
  bk : Bk n rs
  tn : t < n
  hh : hit n (hit n (rests n rs t)) = ord (rests n rs t)
structure Keyf (n : Nat) (rs : List Ru) : Prop where
  bk : Bk n rs
  ln : (blw (closed n rs) (2 ^ n - 1)).length ≤ 2000
  hk : hit n ((blw (closed n rs) (2 ^ n - 1)).map (sd (2 ^ n - 1))) = mkb (cls n rs) (2 ^ n - 1)
theorem sd_lt' {a b m : Nat} (h : a < m) : sd a b < m := Nat.lt_of_le_of_lt (sd_le a b) h
theorem hitF_sub (ne : List Nat) : ∀ (ms acc : List Nat), ∀ b ∈ ms.foldl (hitF ne) acc, b ∈ acc ∨ b ∈ ms
  | [], acc, b, h => .inl h
  | m :: ms, acc, b, h => by
    rcases hitF_sub ne ms (hitF ne acc m) b h with h | h
    · unfold hitF at h
      split at h
      · exact .inl h
      · split at h
        · rcases List.mem_append.mp h with h | h
          · exact .inl h
          · exact .inr (by rw [show b = m by simpa using h]; exact List.mem_cons_self)
        · exact .inl h
    · exact .inr (List.mem_cons_of_mem _ h)
theorem hit_lt {n : Nat} {ls : List Nat} {b : Nat} (h : b ∈ hit n ls) : b < 2 ^ n := by
  rcases hitF_sub _ _ _ b h with h | h
  · cases h
  · exact List.mem_range.mp (mem_ord.mp h)
section
variable {P : Program} {w : World} {K : PySem.W.Frag} {mg : Str → Option Value} {base : Heap} {f : Addr} {fd : FuncData}
abbrev nIh : List Str := ["_law_tome_here", "_law_one", "_law_tops", "_law_needs_here", "_law_wide", "_law_aheads", "_law_lacks", "_law_top", "_law_back", "_law_need", "_law_to"]
theorem sc_w_is_hit : FnScope nIh ["_law_tome_here", "_law_one", "_law_tops", "_law_needs_here"] (defScope s_w_is_hit) := ⟨rfl, rfl, rfl, by decide +kernel, rfl, by decide +kernel, by decide +kernel⟩
def R_w_is_hit (ds : List PyData) (d : PyData) : Prop := ∃ n rs t, Hit n rs t ∧ ds = [bookD n rs, nt t, lotsD (tops n rs t), dueR t (hit n (rests n rs t))] ∧ d = .bool true
theorem ok_w_is_hit (F : Fun K "_law_is_hit" "_law_is_hit" s_w_is_hit f fd) (T : Mg mg) (Fk : FnP P w K mg base 1 "_law_rank" ["_law_own"] (spP K R_lot_key)) (Fh : FnP P w K mg base 8 "hits" ["size", "lots"] (spP K R_hits)) (Kh : FnK P w K mg base 8 "hits" "size" "lots" (spP K R_hits)) :
    FnG P w K mg base 9 f fd ["_law_tome_here", "_law_one", "_law_tops", "_law_needs_here"] (spP K R_w_is_hit) := by
  refine fun_pureG F sc_w_is_hit (fun ds d ⟨_, _, _, _, e, _⟩ => by rw [e]; rfl) (fun cdv A outer s H E hr hgd ds d ⟨n, rs, t, hf, e1, e2⟩ => ?_)
  subst e1 e2
  have hn := hf.bk.n10
  have hp := pow10 hn
  have htn := hf.tn
  have htl := tops_len hf.bk t
  have hhl := hitLen hn (rests n rs t)
  refine ex_cons (e1_set 4 (ev_p (evp_ixT (evp_var 0) (evn_k 0) rfl) ?_) sc_w_is_hit.nd)
  refine ex_cons (e1_parF (i := 5) (j := 6) (d1 := lotsD (hit n (rests n rs t))) (ds := []) (evp_tupL T.tuple (evf_p (evf_c1 sc_w_is_hit (lc1n 9 (hit n (rests n rs t)) (fun b => .tuple [lotM b, .tuple [nt t]]) lotM (evi_tup (evp_var 3)) (by omega) (fun _ _ _ _ _ b _ => evp_ixT (evp_var 9) (evn_k 0) rfl))))) (evf_lst eva_nil) (by show 6 < 11; decide) ?_ (by decide) rfl sc_w_is_hit.nd (by rfl))
  let rr : Nat → Nat := fun b => sd (sd (2 ^ n - 1) (2 ^ t)) b
  refine ex_cons (e1_forG 7 (tops n rs t) lotM (fun i => [some (.d (bookD n rs)), some (.d (nt t)), some (.d (lotsD (tops n rs t))), some (.d (dueR t (hit n (rests n rs t)))), some (.d (nt n)), some (.d (lotsD (hit n (rests n rs t)))), some (.l ((((tops n rs t).take i).map rr).map lotM)), none, none, none, none]) (evi_tup (evp_var 2)) rfl (fun _ => rfl) (fun i b hx => ?_) ?_ PassesOwn.never rfl sc_w_is_hit.nd)
  · refine ex_one (e1_app 6 (d := lotM (rr b)) (evp_tupL T.tuple ?_) rfl ?_ ?_)
    · rw [← rest_filter hn]
      exact evf_p (evf_c1 sc_w_is_hit (lc1 10 (List.range n) nt (fun x => !decide (x = t) && !decide (x ∈ lotOf b)) nt (evi_rngN T.range (evp_var 4) (by omega)) (by rw [List.length_range]; omega)
        (fun _ _ _ _ _ x _ => evc_one (evt_and (etn_ne (evp_var 10) (evp_var 1)) (fun _ => etn_notIn (evp_var 10) (evp_var 7) (.inr rfl)))) (fun _ _ _ _ _ x _ _ => evp_var 10)))
    · rw [List.length_map, List.length_map, List.length_take]
      exact Nat.lt_of_le_of_lt (Nat.le_trans (Nat.min_le_right _ _) htl) (by decide)
    · rw [take_snoc hx, List.map_append, List.map_append]
      rfl
  rw [List.take_length]
  have hrr : (tops n rs t).map rr = rests n rs t := rfl
  rw [hrr]
  have hrl : (rests n rs t).length ≤ 2000 := by
    unfold rests
    rw [List.length_map]
    omega
  have hlt : 2 ^ n - 1 < 2 ^ 10 := Nat.lt_of_lt_of_le (by omega : 2 ^ n - 1 < 1024) (by decide)
  refine ex_frz 6 rfl (ex_cons (e1_set 8 (ev_p (evp_tupL T.tuple (evf_p (evf_sortK (rests n rs t) lotM kdM Fk (hr.mono (by decide)) rfl T.sorted (evp_var 6) (fun x _ => ⟨lotOf x, rfl, rfl⟩) (allAlike_kd _ lotOf) (sortable_kd _ lotOf) (fun x _ => depth_kd _) (Nat.le_trans hrl (by decide))))) ?_) sc_w_is_hit.nd))
  have hb1 : ∀ b ∈ rests n rs t, b < 2 ^ 10 := fun b hb => by
    obtain ⟨c, _, rfl⟩ := List.mem_map.mp hb
    exact sd_lt' (sd_lt' hlt)
  have hb2 : ∀ b ∈ hit n (rests n rs t), b < 2 ^ 10 := fun b hb => lt10 hn (hit_lt hb)
  have r1 : Rp 4 400000 (.list [lotsD (hit n (rests n rs t)), lotsD (ord (rests n rs t))]) := (rp_list (rps_cons (rp_lots hhl) (rps_cons (rp_lots (by rw [ord_len]; exact hrl)) rps_nil) : Rps 3 (140000 + 2 + (140000 + 2 + 0)) _)).mono (by decide) (by decide)
  refine ex_cons (e1_if (evt_neS (evp_repr1 (d := .list [lotsD (hit n (rests n rs t)), lotsD (ord (rests n rs t))]) hgd (un64 hr) T.repr (evf_p (evf_lst (eva_cons (evp_call Fh hr ⟨n, rests n rs t, hn, hrl, hb1, rfl, rfl⟩ (eva_cons (evp_var 4) (eva_1 (evp_tupL T.tuple (evp_var 6))))) (eva_1 (evp_callK2 (d1 := lotsD (hit n (rests n rs t))) (d2 := nt n) Kh hr ⟨n, hit n (rests n rs t), hn, hhl, hb2, rfl, by rw [hf.hh]⟩ (evp_var 5) (evp_var 4)))))) (.inl rfl) r1 (by decide) (by decide)) (evp_repr1 hgd (un64 hr) T.repr (evf_p (evf_lst (eva_cons (evp_var 5) (eva_1 (evp_var 8))))) (.inl rfl) r1 (by decide) (by decide))) (fun hk => ?_) (fun hk => ex_nil ?_))
  · rw [decide_eq_true rfl] at hk
    cases hk
  · have hsh : SeqAt.shaped (.tuple [nt t]) = true := shaped_of (shp_tup (shps_cons (shp_int _) shps_nil)) (by decide)
    refine ex_one (e1_ret (ev_p (evp_isnil1 (hit n (rests n rs t)) (fun _ => !PyData.eqv (.tuple [nt t]) (.tuple [nt t])) (un64 hr) (evf_p (evf_c1 sc_w_is_hit (lc1 9 (hit n (rests n rs t)) (fun b => .tuple [lotM b, .tuple [nt t]]) (fun _ => !PyData.eqv (.tuple [nt t]) (.tuple [nt t])) (fun _ => nt 1) (evi_tup (evp_var 3)) (by omega)
      (fun _ _ _ _ _ b _ => evc_one (evt_neD (un64 hr) (evp_ixT (evp_var 9) (evn_k 1) rfl) (evp_tup (eva_1 (evp_var 1))) hsh hsh)) (fun _ _ _ _ _ b _ _ => evn_k 1))))) ?_))
    have : PyData.eqv (.tuple [nt t]) (.tuple [nt t]) = true := SeqAt.eqv_refl _ rfl
    rw [this]
    show PyData.bool _ = PyData.bool true
    rw [show ((hit n (rests n rs t)).all fun _ => !!true) = true from List.all_eq_true.mpr fun _ _ => rfl]
theorem sc_w_is_key : FnScope ["_law_tome_here", "_law_lacks", "_law_own", "_law_one"] ["_law_tome_here"] (defScope s_w_is_key) := ⟨rfl, rfl, rfl, by decide +kernel, rfl, by decide +kernel, by decide +kernel⟩
def R_w_is_key (ds : List PyData) (d : PyData) : Prop := ∃ n rs, Keyf n rs ∧ ds = [bookD n rs] ∧ d = .bool true
theorem ok_w_is_key (F : Fun K "_law_is_key" "_law_is_key" s_w_is_key f fd) (T : Mg mg) (Fh : FnP P w K mg base 8 "hits" ["size", "lots"] (spP K R_hits)) (Fn : FnP P w K mg base 8 "nonkeys" ["book"] (spP K R_nonkeys)) (Fk : FnP P w K mg base 9 "keys" ["book"] (spP K R_keys)) :
    FnG P w K mg base 10 f fd ["_law_tome_here"] (spP K R_w_is_key) := by
  refine fun_pureG F sc_w_is_key (fun ds d ⟨_, _, _, e, _⟩ => by rw [e]; rfl) (fun cdv A outer s H E hr hgd ds d ⟨n, rs, hf, e1, e2⟩ => ?_)
  subst e1 e2
  have hn := hf.bk.n10
  have hp := pow10 hn
  have hln := hf.ln
  generalize hnk : blw (closed n rs) (2 ^ n - 1) = nk at hln
  have hlt : 2 ^ n - 1 < 2 ^ 10 := Nat.lt_of_lt_of_le (by omega : 2 ^ n - 1 < 1024) (by decide)
  refine ex_cons (e1_setF 1 (evf_lst eva_nil) (by show 1 < 4; decide) ?_ sc_w_is_key.nd)
  refine ex_cons (e1_forG 2 nk lotM (fun i => [some (.d (bookD n rs)), some (.l (((nk.take i).map (sd (2 ^ n - 1))).map lotM)), none, none]) (evi_tup (evp_call Fn (hr.mono (by decide)) ⟨n, rs, hf.bk, rfl, by rw [hnk]⟩ (eva_1 (evp_var 0)))) rfl (fun _ => rfl) (fun i b hx => ?_) ?_ PassesOwn.never rfl sc_w_is_key.nd)
  · refine ex_one (e1_app 1 (d := lotM (sd (2 ^ n - 1) b)) (evp_tupL T.tuple ?_) rfl ?_ ?_)
    · rw [← comp_filter hn]
      exact evf_p (evf_c1 sc_w_is_key (lc1 3 (List.range n) nt (fun x => !decide (x ∈ lotOf b)) nt (evi_rngN T.range (evp_ixT (evp_var 0) (evn_k 0) rfl) (by omega)) (by rw [List.length_range]; omega)
        (fun _ _ _ _ _ x _ => evc_one (etn_notIn (evp_var 3) (evp_var 2) (.inr rfl))) (fun _ _ _ _ _ x _ _ => evp_var 3)))
    · rw [List.length_map, List.length_map, List.length_take]
      exact Nat.lt_of_le_of_lt (Nat.le_trans (Nat.min_le_right _ _) hln) (by decide)
    · rw [take_snoc hx, List.map_append, List.map_append]
      rfl
  rw [List.take_length]
  have hk := hf.hk
  rw [hnk] at hk
  have r1 : Rp 3 140000 (lotsD (hit n (nk.map (sd (2 ^ n - 1))))) := rp_lots (hitLen hn _)
  refine ex_frz 1 rfl (ex_one (e1_ret (ev_p (evp_eqS (evp_repr1 (d := lotsD (hit n (nk.map (sd (2 ^ n - 1))))) hgd (un64 hr) T.repr (evp_call Fh (hr.mono (by decide)) ⟨n, nk.map (sd (2 ^ n - 1)), hn, by rw [List.length_map]; exact hln, fun b hb => by
      obtain ⟨c, _, rfl⟩ := List.mem_map.mp hb
      exact sd_lt' hlt, rfl, rfl⟩ (eva_cons (evp_ixT (evp_var 0) (evn_k 0) rfl) (eva_1 (evp_tupL T.tuple (evp_var 1))))) (.inr rfl) r1 (by decide) (by decide))
    (evp_repr1 (d := lotsD (hit n (nk.map (sd (2 ^ n - 1))))) hgd (un64 hr) T.repr (evp_call Fk hr ⟨n, rs, hf.bk, rfl, by rw [hk]⟩ (eva_1 (evp_var 0))) (.inr rfl) r1 (by decide) (by decide))) ?_)))
  rw [decide_eq_true rfl]
  rfl
end
end Mt

set_option maxHeartbeats 4000000
namespace Mt
open PySem PySem.Spec PyProof.Rows L2
section
variable {K : PySem.W.Frag} {B Z : Addr → Prop} {F F' : Nat → List Addr} {H H' : Hp} {σ σ2 : L2.St} {Γ Γ' : Gm}
theorem unhide_st : Same (hid (hd (fun b => Z b ∨ B b) F) H) (hid (hd B F) H) := fun b o q => by
  obtain ⟨q1, q2⟩ := hid_iff.mp q
  refine hid_iff.mpr ⟨fun z => q1 ?_, q2⟩
  rcases z with z | z
  · exact .inl (.inr z)
  · exact .inr z
theorem GOk.unhide (g : GOk K (fun b => Z b ∨ B b) F H σ Γ) : GOk K B F H σ Γ := by
  refine ⟨g.ls, g.dj, fun k b h z => g.out k b h (.inr z), fun b z => ?_, fun k e h => ?_, g.nil⟩
  · rcases z with z | z
    · exact g.own b (.inl (.inr z))
    · exact g.own b (.inr z)
  · obtain ⟨u, h1, h2⟩ := g.ent k e h
    exact ⟨u, h1, h2.mono unhide_st fun _ _ => rfl⟩
/-- a slot of no entry may hold anything -/
theorem GOk.resig {k : Nat} (g : GOk K B F H σ2 (Γ.set k none)) (e : σ2.set k none = σ.set k none) : GOk K B F H σ (Γ.set k none) := by
  refine ⟨?_, g.dj, g.out, g.own, fun i en h => ?_, g.nil⟩
  · have := congrArg List.length e
    rw [List.length_set, List.length_set] at this
    rw [← this]
    exact g.ls
  · have hik : k ≠ i := fun z => by
      subst z
      have hl := (List.getElem?_eq_some_iff.mp h).1
      rw [List.length_set] at hl
      rw [List.getElem?_set_self hl] at h
      cases h
    obtain ⟨v, h1, h2⟩ := g.ent i en h
    refine ⟨v, ?_, h2⟩
    have := congrArg (fun l => l[i]?) e
    simp only [List.getElem?_set_ne hik] at this
    rw [← this]
    exact h1
end
section
variable {X : Cx} {e tg iter elt : Expr} {Γ : Gm} {d : PyData} {ds : List PyData} {pos p px : Pos} {x : Str} {N ps : List Str} {sc scope : Scope}
/-- [.. for x in ..], the item draws -/
theorem ev_lcE {α : Type} {P : PyData → Gm → Prop} (S : FnScope N ps sc) (k : Nat) (xs : List α) (enc : α → PyData) (I : Nat → List PyData → Gm → Prop) (hi : EvI X (.Name x px) iter Γ (xs.map enc)) (hl : xs.length ≤ 100000) (i0 : I 0 [] Γ)
    (hk : ∀ i ds Γ', I i ds Γ' → nOwn Γ' k = true)
    (he : ∀ (s : Shared) (H0 : Hp) (C : Addr) (cl : List (Str × Addr)) (fp : List Addr) (i : Nat) (y : α) (ds : List PyData) (Γ' : Gm), xs[i]? = some y → I i ds Γ' → Ev (Blk X s H0 scope C cl fp) elt (Γ'.set k (some (.d (enc y)))) fun d Γ2 => I (i + 1) (ds ++ [d]) (Γ2.set k none))
    (hP : ∀ ds Γ', I xs.length ds Γ' → P (.list ds) Γ')
    (hi1 : N[k]? = some x := by rfl) (hXN : X.N = N := by rfl) (ok : blkC X.N X.env.scope scope [(x, k)] = true := by kernel_rfl) (hc : X.calm = true := by rfl) (hlx : ∀ (s : Shared) (H : Hp) (C : Addr) (cl : List (Str × Addr)) (fp : List Addr), Loc (Blk X s H scope C cl fp).env.scope x := by intros; first | exact .inl rfl | exact .inr rfl) (hfx : ∀ (s : Shared) (H0 : Hp) (C : Addr) (cl : List (Str × Addr)) (fp : List Addr), (Blk X s H0 scope C cl fp).fn x = true ∨ (Blk X s H0 scope C cl fp).env.scope.names.lookup x = some .local := by intro _ _ _ _ _; first | exact .inl rfl | exact .inr rfl)
    (hs : ∀ x, foldedSetIterable iter X.env x = pure x := by intro _; rfl) : Ev X (.ListComp elt [⟨.Name x px, iter, [], 0⟩] scope pos) Γ P := fun B F σ H Q g kk => by
  subst hXN
  refine sE_of (pe_lc hc S.nd pi_s (blkOk_by ok) (fun s H C cl fp => pg_name (i := k) S.nd hi1 (hlx s H C cl fp) (hfx s H C cl fp)) (fun s H C cl fp => (⟨fun pins s' _ _ _ I q => q s H C cl fp pins s' I⟩ : PTs (Blk X s H scope C cl fp) [] (sCb X scope []))) (fun s H C cl fp => (⟨fun pins s' _ _ _ I q => q s H C cl fp pins s' I⟩ : PE (Blk X s H scope C cl fp) elt (sEb X scope elt))) hs) ?_
  refine hi B F σ H _ g fun J H1 s1 Y D hD => ?_
  have hlen : (xs.map enc).length = xs.length := List.length_map ..
  have nD : H D = none := s1.free hD
  have g0 : GOk X.K (fun b => b = D ∨ B b) F (upd H1 D (.lst [])) σ Γ := g.coverL (s1.trans (same_new hD)) (fun b z => by rw [z]; exact nD) (fun b z => by rw [z, upd_same]; simp)
  have sm0 : Same (hid (hd B F) H1) (hid (hd (fun b => b = D ∨ B b) F) (upd H1 D (.lst []))) := fun b o q => by
    obtain ⟨q1, q2⟩ := hid_iff.mp q
    refine hid_iff.mpr ⟨fun z => ?_, same_new hD _ _ q2⟩
    rcases z with (z | z) | z
    · rw [z, hD] at q2; cases q2
    · exact q1 (.inl z)
    · exact q1 (.inr z)
  refine ⟨fun i m H2 => m = xs.length - i ∧ i ≤ xs.length ∧ ∃ F2 Γ2 acc ds, Step F H F2 H2 ∧ Same (hid (hd B F) H1) (hid (hd (fun b => b = D ∨ B b) F2) H2) ∧ GOk X.K (fun b => b = D ∨ B b) F2 H2 σ Γ2 ∧ H2 D = some (.lst acc) ∧ acc.length = i ∧ DpAll X.K (hid (hd (fun b => b = D ∨ B b) F2) H2) acc ds ∧ I i ds Γ2,
    ⟨xs.length, by simp, Nat.zero_le _, F, Γ, [], [], Step.same (s1.trans (same_new hD)), sm0, g0, upd_same, rfl, .nil, i0⟩, ?_⟩
  rintro i m H2 ⟨rfl, hi', F2, Γ2, acc, ds, st2, sm2, g2, hacc, hal, hq, hI⟩
  by_cases hlt : i < xs.length
  · refine .inr ⟨Y.go i H2 (sm2.trans hid_le) (by rw [hlen]; exact hlt), fun H3 => i + 1 ≤ xs.length ∧ ∃ F2 Γ2 acc ds, Step F H F2 H3 ∧ Same (hid (hd B F) H1) (hid (hd (fun b => b = D ∨ B b) F2) H3) ∧ GOk X.K (fun b => b = D ∨ B b) F2 H3 σ Γ2 ∧ H3 D = some (.lst acc) ∧ acc.length = i + 1 ∧ DpAll X.K (hid (hd (fun b => b = D ∨ B b) F2) H3) acc ds ∧ I (i + 1) ds Γ2,
      fun H' ⟨n1, n2⟩ => ⟨xs.length - (i + 1), by omega, rfl, n1, n2⟩, fun v H3 yv => ?_⟩
    have hx : xs[i]? = some xs[i] := List.getElem?_eq_getElem hlt
    obtain ⟨s3, yd⟩ := Y.yld i H2 v H3 (enc xs[i]) (sm2.trans hid_le) (by rw [List.getElem?_map, hx]; rfl) yv
    have dx := yd (hd (fun b => b = D ∨ B b) F2) g2.own sm2
    have hno := hk i ds Γ2 hI
    refine (tgt_name (d := enc xs[i]) hno).runW (fun b => b = D ∨ B b) F2 σ H3 v _ (g2.grow s3) dx fun σ2 hw gk => ⟨hw, fun s0 H0 C cl fp => ?_⟩
    refine (evc_nil : EvC (Blk X s0 H0 scope C cl fp) [] _ true) (fun b => b = D ∨ B b) F2 σ2 H3 _ gk fun H4 s4 => ?_
    refine iteT fun s0 H0 C cl fp => ?_
    refine he s0 H0 C cl fp i xs[i] ds Γ2 hx hI (fun b => b = D ∨ B b) F2 σ2 H4 _ (gk.grow s4) fun y5 H5 F5 Γ5 d s5 g5 q5 hI5 => ?_
    have h4D : H4 D = some (.lst acc) := s4 _ _ (s3 _ _ hacc)
    have h5D : H5 D = some (.lst acc) := s5.keep D _ h4D fun j z => gk.out j D z (.inl rfl)
    have gp := (g5.poke (o := .lst (acc ++ [y5])) (b := D) (.inl rfl)).drop k
    have gr := gp.resig (σ := σ) hw
    have sp : Same (hid (hd (fun b => b = D ∨ B b) F5) H5) (hid (hd (fun b => b = D ∨ B b) (upF F5 k [])) (upd H5 D (.lst (acc ++ [y5])))) := Same.trans (hid_poke (.inl (.inl rfl))) (Step.stab step_drop)
    have s25 : Same (hid (hd (fun b => b = D ∨ B b) F2) H2) (hid (hd (fun b => b = D ∨ B b) F5) H5) := (hid_same (s3.trans s4)).trans s5.stab
    refine ⟨acc, h5D, by rw [hal]; exact Nat.lt_of_lt_of_le hlt (Nat.le_trans hl (by decide)), hlt, upF F5 k [], Γ5.set k none, acc ++ [y5], ds ++ [d], ?_, (sm2.trans s25).trans sp, gr, upd_same, by rw [List.length_append, hal, List.length_singleton], dps_app (dps_mono (s25.trans sp) _ hq) (dps_one (dp_mono sp _ q5)), hI5⟩
    have sa : Step F H F5 H5 := st2.trans ((Step.same (s3.trans s4)).trans s5)
    refine ⟨fun b o q z => ?_, fun j b z => ?_, fun b q => ?_⟩
    · rw [upd_ne (ne_of_none q nD)]
      exact sa.keep b o q z
    · rcases upF_mem z with ⟨_, z⟩ | ⟨_, z⟩
      · cases z
      · exact sa.new j b z
    · have := sa.trk b q
      by_cases hb : b = D
      · rw [hb, upd_same]; simp
      · rw [upd_ne hb]; exact this
  · have e : i = xs.length := by omega
    subst e
    refine .inl ⟨by rw [← hlen]; exact Y.stop H2 (sm2.trans hid_le), ?_⟩
    have nh : ¬ hd B F2 D := fun z => by
      rcases z with z | ⟨j, z⟩
      · exact g.own D (.inl z) nD
      · exact g2.out j D z (.inl rfl)
    exact kk (.ref D) H2 F2 Γ2 (.list ds) st2 g2.unhide (.lst (.inl (.inl (hid_iff.mpr ⟨nh, hacc⟩))) (dps_mono unhide_st _ hq)) (hP ds Γ2 hI)
end
end Mt

set_option maxHeartbeats 4000000
namespace Mt
open PySem PySem.Spec PyProof.Rows L2
def byR (n : Nat) (rs : List Ru) (q : Nat) : Nat := (List.range n).foldl (fun acc t => if (!(hit n (rests n rs t)).all fun o => !decide (o &&& q = o)) = true then acc ||| 2 ^ t else acc) q
def byT (n : Nat) (rs : List Ru) (q : Nat) : Nat := (List.range n).foldl (fun acc t => ((tops n rs t).filter fun c => decide (c &&& q = q)).foldl (fun a c => a &&& c) acc) (2 ^ n - 1)
structure Clos (n : Nat) (rs : List Ru) : Prop where
  bk : Bk n rs
  br : ∀ q, q < 2 ^ n → byR n rs q = clo rs q
  bt : ∀ q, q < 2 ^ n → byT n rs q = clo rs q
abbrev topsD (n : Nat) (rs : List Ru) : PyData := .list ((List.range n).map fun t => lotsD (tops n rs t))
abbrev ahD (n : Nat) (rs : List Ru) : PyData := .list ((List.range n).map fun t => .list ((hit n (rests n rs t)).map lotM))
theorem msk_lotOf : ∀ b, b < 1024 → msk (lotOf b) = b := by decide +kernel
theorem lots_ok (b : Nat) : (lotOf b).length ≤ 100000 ∧ ∀ t ∈ lotOf b, t ≤ 100 := by
  refine ⟨by have := lotOf_len b; omega, fun t ht => ?_⟩
  have := (mem_lotOf.mp ht).1
  omega
theorem tops_lt {n : Nat} {rs : List Ru} {t b : Nat} (hb : Bk n rs) (h : b ∈ tops n rs t) : b < 1024 := by
  have h1 := (List.mem_filter.mp (List.mem_filter.mp h).1).1
  have h2 := (mem_closed.mp h1).1
  have := pow10 hb.n10
  omega
theorem foldl_and_len {n : Nat} : n ≤ n := Nat.le_refl n
section
variable {P : Program} {w : World} {K : PySem.W.Frag} {mg : Str → Option Value} {base : Heap} {f : Addr} {fd : FuncData}
abbrev nBc : List Str := ["_law_spring_here", "_law_tome_here", "_law_tops", "_law_aheads", "_law_wide", "_law_asked", "_law_ahead_masks", "_law_top_masks", "_law_mask_here", "_law_by_rules", "_law_by_tops", "_law_one", "_law_own", "_law_top", "_law_turn", "_law_lone", "_law_some_here"]
theorem sc_w_by_closures : FnScope nBc ["_law_spring_here", "_law_tome_here", "_law_tops", "_law_aheads"] (defScope s_w_by_closures) := ⟨rfl, rfl, rfl, by decide +kernel, rfl, by decide +kernel, by decide +kernel⟩
def preC (ds : List PyData) : Prop := ∃ n rs, Clos n rs ∧ ds = [bookD n rs, topsD n rs, ahD n rs]
def postT (ds : List PyData) (d : PyData) : Prop := d = .bool true
theorem ok_w_by_closures (F : Fun K "_law_by_closures" "_law_by_closures" s_w_by_closures f fd) (T : Mg mg) (Fs : FnP P w K mg base 2 "_law_some" ["_law_spring_here", "_law_wide", "_law_many"] (spS K 8 preS postS)) (Fm : FnP P w K mg base 1 "_law_mask" ["_law_own"] (spP K R_w_mask)) (Fl : FnP P w K mg base 1 "_law_lot" ["_law_mask_here"] (spP K R_lot_of)) (Fc : FnP P w K mg base 3 "closure" ["book", "lot"] (spP K R_closure)) :
    FnG P w K mg base 4 f fd ["_law_spring_here", "_law_tome_here", "_law_tops", "_law_aheads"] (spS K 50 preC postT) := by
  refine fun_sprG F sc_w_by_closures (fun ds ⟨n, rs, _, e⟩ => by rw [e]; rfl) (fun cdv A outer s H E hr hgd a c0 ds hcn ⟨n, rs, hf, e1⟩ => ?_)
  subst e1
  have hn := hf.bk.n10
  have hp := pow10 hn
  have hh := fun t => hitLen hn (rests n rs t)
  have htl := fun t => tops_len hf.bk t
  refine ex_cons (e1_set 4 (ev_p (evp_ixT (evp_var 1) (evn_k 0) rfl) ?_) sc_w_by_closures.nd)
  let I0 : Gm → Prop := fun Γ => ∃ c qs, c ≤ c0 + 50 ∧ qs.length ≤ 2000 ∧ (∀ q ∈ qs, q < 2 ^ n) ∧ Γ = [some (.s a c), some (.d (bookD n rs)), some (.d (topsD n rs)), some (.d (ahD n rs)), some (.d (nt n)), some (.d (intsD qs)), none, none, none, none, none, none, none, none, none, none, none]
  refine ex_seq I0 (e1_set 5 (ev_if (etn_lt (evp_var 4) (evn_k 5)) (fun h5 => ?_) (fun h5 => ?_)) sc_w_by_closures.nd) (fun Γ ⟨c, qs, hc, hql, hqs, e⟩ => ?_)
  · refine ev_p (evf_p (evf_listRg (n := 2 ^ n) rfl T.list T.range (evn_shl (evp_var 4) (by omega)) (by omega))) ⟨c0, List.range (2 ^ n), by omega, by rw [List.length_range]; omega, fun q hq => List.mem_range.mp hq, rfl⟩
  · refine ev_lcE sc_w_by_closures 14 (List.range 6) nt (fun i ds Γ => i ≤ 6 ∧ ∃ qs : List Nat, ds = qs.map nt ∧ qs.length = i ∧ (∀ q ∈ qs, q < 2 ^ n) ∧ Γ = [some (.s a (c0 + 8 * i)), some (.d (bookD n rs)), some (.d (topsD n rs)), some (.d (ahD n rs)), some (.d (nt n)), none, none, none, none, none, none, none, none, none, none, none, none])
      (evi_rngN T.range (evn_k 6) (by decide)) (by decide) ⟨by omega, [], rfl, rfl, (fun q hq => nomatch hq), rfl⟩ (fun i ds Γ ⟨_, _, _, _, _, e⟩ => by rw [e]; rfl) (fun _ _ _ _ _ i y ds Γ hy ⟨hi6, qs, e1, e2, e3, e4⟩ => ?_) (fun ds Γ ⟨_, qs, e1, e2, e3, e4⟩ => ?_)
    · subst e1 e4
      have hil := (List.getElem?_eq_some_iff.mp hy).1
      have hyi : y = i := by
        have := (List.getElem?_eq_some_iff.mp hy).2
        rw [List.getElem_range] at this
        exact this.symm
      subst hyi
      rw [List.length_range] at hil
      refine ev_callS Fs (hr.mono (by decide)) 0 rfl (evae_p (eva_cons (evp_var 4) (eva_1 (evn_add (evn_k 1) (evp_var 14)))) ⟨c0 + 8 * y, rfl, by omega, ⟨n, 1 + y, hn, by omega, rfl⟩, fun d ⟨w', k', m, e5, hm, e6⟩ => ?_⟩)
      have hw : n = w' := nt_inj (by
        injection e5 with h1 _)
      subst hw
      subst e6
      refine ⟨by omega, qs ++ [m], by rw [List.map_append]; rfl, by rw [List.length_append, e2, List.length_singleton], fun q hq => ?_, rfl⟩
      rcases List.mem_append.mp hq with hq | hq
      · exact e3 q hq
      · rw [show q = m by simpa using hq]
        exact hm
    · subst e1 e4
      refine ⟨c0 + 8 * (List.range 6).length, qs, by rw [List.length_range]; omega, by rw [e2, List.length_range]; omega, e3, rfl⟩
  subst e
  refine ex_cons (e1_setC1 sc_w_by_closures 6 (lc1n 16 (List.range n) (fun t => .list ((hit n (rests n rs t)).map lotM)) (fun t => intsD (hit n (rests n rs t))) (evi_list (evp_var 3)) (by rw [List.length_range]; omega) (fun _ _ _ _ _ t _ =>
    evf_p (evf_c1 sc_w_by_closures (lc1n 15 (hit n (rests n rs t)) lotM nt (evi_list (evp_var 16)) (by have := hh t; omega) (fun _ _ _ _ _ b hb => evp_call Fm (hr.mono (by decide)) ⟨lotOf b, (lots_ok b).1, (lots_ok b).2, rfl, by rw [msk_lotOf b (Nat.lt_of_lt_of_le (hit_lt hb) hp)]⟩ (eva_1 (evp_var 15))))))) ?_)
  refine ex_cons (e1_setC1 sc_w_by_closures 7 (lc1n 16 (List.range n) (fun t => lotsD (tops n rs t)) (fun t => intsD (tops n rs t)) (evi_list (evp_var 2)) (by rw [List.length_range]; omega) (fun _ _ _ _ _ t _ =>
    evf_p (evf_c1 sc_w_by_closures (lc1n 15 (tops n rs t) lotM nt (evi_tup (evp_var 16)) (by have := htl t; omega) (fun _ _ _ _ _ b hb => evp_call Fm (hr.mono (by decide)) ⟨lotOf b, (lots_ok b).1, (lots_ok b).2, rfl, by rw [msk_lotOf b (tops_lt hf.bk hb)]⟩ (eva_1 (evp_var 15))))))) ?_)
  have hat : ∀ (g : Nat → PyData) (t : Nat), t < n → atI ((List.range n).map g) ((t : Nat) : Int) = some (g t) := fun g t ht => L2.atI_nat (by rw [List.getElem?_map, List.getElem?_range ht]; rfl)
  let G8 : Option Ent → Option Ent → Option Ent → Option Ent → Option Ent → Gm := fun e8 e9 e10 e11 e12 => [some (.s a c), some (.d (bookD n rs)), some (.d (topsD n rs)), some (.d (ahD n rs)), some (.d (nt n)), some (.d (intsD qs)), some (.d (.list ((List.range n).map fun t => intsD (hit n (rests n rs t))))), some (.d (.list ((List.range n).map fun t => intsD (tops n rs t)))), e8, e9, e10, e11, e12, none, none, none, none]
  refine ex_cons (e1_forG 8 qs nt (fun _ => G8 none none none none none) (evi_list (evp_var 5)) rfl (fun _ => rfl) (fun i q hx => ?_) (ex_one (e1_ret (ev_p evp_bool ⟨⟨c, by omega, rfl⟩, rfl⟩))) PassesOwn.never rfl sc_w_by_closures.nd)
  have hq := hqs q (List.mem_of_getElem? hx)
  refine ex_dropN 9 (ex_dropN 10 (ex_dropN 11 (ex_dropN 12 (ex_dropN 13 ?_))))
  refine ex_cons (e1_par (i := 9) (j := 10) (d1 := nt q) (d2 := nt (2 ^ n - 1)) (evp_var 8) (evn_sub (Nat.two_pow_pos n) (evn_shl (evp_var 4) (by omega)) (evn_k 1)) ?_ (by decide) rfl sc_w_by_closures.nd (by rfl))
  let fR : Nat → Nat → Nat := fun acc t => if (!(hit n (rests n rs t)).all fun o => !decide (o &&& q = o)) = true then acc ||| 2 ^ t else acc
  let fT : Nat → Nat → Nat := fun acc t => ((tops n rs t).filter fun c => decide (c &&& q = q)).foldl (fun a c => a &&& c) acc
  refine ex_cons (e1_forG 11 (List.range n) nt (fun i => G8 (some (.d (nt q))) (some (.d (nt (((List.range n).take i).foldl fR q)))) (some (.d (nt (((List.range n).take i).foldl fT (2 ^ n - 1))))) none none) (evi_rngN T.range (evp_var 4) (by omega)) rfl (fun _ => rfl) (fun j t hy => ?_) ?_ PassesOwn.never rfl sc_w_by_closures.nd)
  · have htn : t < n := List.mem_range.mp (List.mem_of_getElem? hy)
    refine ex_dropN 12 (ex_seq (fun Γ => Γ = G8 (some (.d (nt q))) (some (.d (nt (((List.range n).take (j + 1)).foldl fR q)))) (some (.d (nt (((List.range n).take j).foldl fT (2 ^ n - 1))))) (some (.d (nt t))) none) (e1_if (etn_nonil1 (hit n (rests n rs t)) (fun o => decide (o &&& q = o)) (un64 hr) (evf_p (evf_c1 sc_w_by_closures (lc1 12 (hit n (rests n rs t)) nt (fun o => decide (o &&& q = o)) (fun _ => nt 1) (evi_list (evp_ixL (evp_var 6) (evp_var 11) (hat _ t htn))) (by have := hh t; omega)
      (fun _ _ _ _ _ o _ => evc_one (etn_eq (evn_and (evp_var 12) (evp_var 8)) (evp_var 12))) (fun _ _ _ _ _ o _ _ => evn_k 1))))) (fun hk => ?_) (fun hk => ?_)) (fun Γ e => ?_))
    · refine ex_one (e1_set 9 (ev_p (evn_or (evp_var 9) (evn_shl (evp_var 11) (by omega))) ?_) sc_w_by_closures.nd)
      rw [foldl_snoc hy]
      have : fR (((List.range n).take j).foldl fR q) t = ((List.range n).take j).foldl fR q ||| 2 ^ t := if_pos hk
      rw [this]
      rfl
    · refine ex_nil ?_
      rw [foldl_snoc hy]
      have : fR (((List.range n).take j).foldl fR q) t = ((List.range n).take j).foldl fR q := if_neg (by rw [hk]; decide)
      rw [this]
      rfl
    · subst e
      refine ex_one (e1_forG 12 ((tops n rs t).filter fun c => decide (c &&& q = q)) nt (fun i => G8 (some (.d (nt q))) (some (.d (nt (((List.range n).take (j + 1)).foldl fR q)))) (some (.d (nt ((((tops n rs t).filter fun c => decide (c &&& q = q)).take i).foldl (fun a c => a &&& c) (((List.range n).take j).foldl fT (2 ^ n - 1)))))) (some (.d (nt t))) none)
        (evi_list (evf_p (evf_c1 sc_w_by_closures (lc1 13 (tops n rs t) nt (fun c => decide (c &&& q = q)) nt (evi_list (evp_ixL (evp_var 7) (evp_var 11) (hat _ t htn))) (by have := htl t; omega)
          (fun _ _ _ _ _ o _ => evc_one (etn_eq (evn_and (evp_var 13) (evp_var 8)) (evp_var 8))) (fun _ _ _ _ _ o _ _ => evp_var 13))))) rfl (fun _ => rfl) (fun i o hz => ?_) ?_ PassesOwn.never rfl sc_w_by_closures.nd)
      · refine ex_one (e1_set 10 (ev_p (evn_and (evp_var 10) (evp_var 12)) ?_) sc_w_by_closures.nd)
        rw [foldl_snoc hz]
        rfl
      · rw [List.take_length, show ((List.range n).take (j + 1)).foldl fT (2 ^ n - 1) = fT (((List.range n).take j).foldl fT (2 ^ n - 1)) t from foldl_snoc hy]
        rfl
  · have e1 : ((List.range n).take (List.range n).length).foldl fR q = clo rs q := by
      rw [List.take_length]
      exact hf.br q hq
    have e2 : ((List.range n).take (List.range n).length).foldl fT (2 ^ n - 1) = clo rs q := by
      rw [List.take_length]
      exact hf.bt q hq
    rw [e1, e2]
    refine ex_cons (e1_set 13 (ev_p (evp_call Fc hr ⟨n, rs, q, hf.bk, hq, rfl, rfl⟩ (eva_cons (evp_var 1) (eva_1 (evp_call Fl (hr.mono (by decide)) ⟨q, rfl, rfl⟩ (eva_1 (evp_var 8)))))) ?_) sc_w_by_closures.nd)
    have r1 : Rp 3 140 (.list [lotM (clo rs q), lotM (clo rs q)]) := (rp_list (rps_cons (rp_lot _) (rps_cons (rp_lot _) rps_nil) : Rps 2 (64 + 2 + (64 + 2 + 0)) _)).mono (by decide) (by decide)
    refine ex_one (e1_if (evt_neS (evp_repr1 (d := .list [lotM (clo rs q), lotM (clo rs q)]) hgd (un64 hr) T.repr (evf_p (evf_lst (eva_cons (evp_var 13) (eva_1 (evp_var 13))))) (.inl rfl) r1 (by decide) (by decide)) (evp_repr1 (d := .list [lotM (clo rs q), lotM (clo rs q)]) hgd (un64 hr) T.repr (evf_p (evf_lst (eva_cons (evp_call Fl (hr.mono (by decide)) ⟨_, rfl, rfl⟩ (eva_1 (evp_var 9))) (eva_1 (evp_call Fl (hr.mono (by decide)) ⟨_, rfl, rfl⟩ (eva_1 (evp_var 10))))))) (.inl rfl) r1 (by decide) (by decide))) (fun hk => ?_) (fun hk => ex_nil rfl))
    rw [decide_eq_true rfl] at hk
    cases hk
end
end Mt

set_option maxHeartbeats 4000000
namespace Mt
open PySem PySem.Spec PyProof.Rows L2
/-! ### dicts by tuples of ints -/
def kI (ns : List Int) : List Key := ns.map Sum.inl
def look (ps : List (List Int × PyData)) (ns : List Int) : Option PyData := (ps.find? fun p => decide (p.1 = ns)).map (·.2)
def putP (ps : List (List Int × PyData)) (ns : List Int) (d : PyData) : List (List Int × PyData) := if (ps.any fun p => decide (p.1 = ns)) = true then ps.map (fun p => if p.1 = ns then (p.1, d) else p) else ps ++ [(ns, d)]
theorem kI_inj : ∀ {a b : List Int}, kI a = kI b → a = b
  | [], [], _ => rfl
  | [], _ :: _, h => by simp [kI] at h
  | _ :: _, [], h => by simp [kI] at h
  | x :: a, y :: b, h => by
    simp only [kI, List.map_cons] at h
    injection h with h1 h2
    injection h1 with h1
    rw [h1, kI_inj h2]
theorem kI_kV (ns : List Int) : (kI ns).map kV = ns.map V.int := by
  unfold kI
  rw [List.map_map]
  rfl
section
variable {K : PySem.W.Frag} {S S' H : Hp}
theorem kv_look {kvs : List (List Key × V)} {ps : List (List Int × PyData)} (h : KvOk K S kvs ps) (ns : List Int) : (look ps ns = none ∧ valV kvs (kI ns) = none) ∨ ∃ d v, look ps ns = some d ∧ valV kvs (kI ns) = some v ∧ Dp K S v d := by
  induction h with
  | nil => exact .inl ⟨rfl, rfl⟩
  | @cons p q ps' qs' h1 _ ih =>
    by_cases e : q.1 = ns
    · refine .inr ⟨q.2, p.2, by simp [look, List.find?_cons, e], valV_pos (by rw [h1.1, e]; rfl), h1.2⟩
    · have e2 : ¬ p.1 = kI ns := fun z => e (kI_inj (show kI q.1 = kI ns by rw [← z, h1.1]; rfl))
      rw [valV_neg e2]
      have : look (q :: qs') ns = look qs' ns := by simp [look, List.find?_cons, e]
      rw [this]
      exact ih
theorem kv_len {kvs : List (List Key × V)} {ps : List (List Int × PyData)} (h : KvOk K S kvs ps) : kvs.length = ps.length := Paired.length h
theorem kv_put {kvs : List (List Key × V)} {ps : List (List Int × PyData)} (h : KvOk K S kvs ps) (ns : List Int) {v : V} {d : PyData} (hv : Dp K S v d) : KvOk K S (putK kvs (kI ns) v) (putP ps ns d) := by
  have hany : (kvs.any fun kv => decide (kv.1 = kI ns)) = (ps.any fun p => decide (p.1 = ns)) := by
    induction h with
    | nil => rfl
    | @cons p q ps' qs' h1 _ ih =>
      rw [List.any_cons, List.any_cons, ih]
      congr 1
      by_cases e : q.1 = ns
      · rw [decide_eq_true e, decide_eq_true (show p.1 = kI ns by rw [h1.1, e]; rfl)]
      · rw [decide_eq_false e, decide_eq_false (fun z => e (kI_inj (show kI q.1 = kI ns by rw [← z, h1.1]; rfl)))]
  unfold putK putP
  rw [hany]
  by_cases q : (ps.any fun p => decide (p.1 = ns)) = true
  · rw [if_pos q, if_pos q]
    clear q hany
    induction h with
    | nil => exact .nil
    | @cons p q ps' qs' h1 _ ih =>
      rw [List.map_cons, List.map_cons]
      refine .cons ?_ ih
      by_cases e : q.1 = ns
      · rw [if_pos e, if_pos (show p.1 = kI ns by rw [h1.1, e]; rfl)]
        exact ⟨h1.1, hv⟩
      · rw [if_neg e, if_neg (fun z => e (kI_inj (show kI q.1 = kI ns by rw [← z, h1.1]; rfl)))]
        exact h1
  · rw [if_neg q, if_neg q]
    exact Paired.snoc h ⟨rfl, hv⟩
/-- data hangs on no dict -/
def notD (o : HO) : Prop := ∀ kvs, o ≠ .dT kvs
mutual
theorem dp_nd (hs : ∀ b o, notD o → S b = some o → S' b = some o) : ∀ (d : PyData) {v : V}, Dp K S v d → Dp K S' v d
  | .none, _, h => by cases h; exact .non
  | .bool b, _, h => by cases h; exact .bl b
  | .int i, _, h => by cases h; exact .int i
  | .str x, _, h => by cases h; exact .str x
  | .list ds, _, h => by
    cases h with
    | lst h1 h2 =>
      refine .lst ?_ (dps_nd hs ds h2)
      rcases h1 with (h1 | ⟨o, h1⟩) | h1
      · exact .inl (.inl (hs _ _ (fun _ z => by cases z) h1))
      · exact .inl (.inr ⟨o, hs _ _ (fun _ z => by cases z) h1⟩)
      · exact .inr h1
  | .tuple ds, _, h => by
    cases h with
    | tup h1 h2 => exact .tup (.of (hs _ _ (fun _ z => by cases z) h1.eq)) (dps_nd hs ds h2)
  | .dict _, _, h => by cases h
theorem dps_nd (hs : ∀ b o, notD o → S b = some o → S' b = some o) : ∀ (ds : List PyData) {vs : List V}, DpAll K S vs ds → DpAll K S' vs ds
  | [], _, h => by cases h; exact .nil
  | d :: ds, _, h => by
    cases h with
    | cons h1 h2 => exact .cons (dp_nd hs d h1) (dps_nd hs ds h2)
end
end
section
variable {K : PySem.W.Frag} {B : Addr → Prop} {F : Nat → List Addr} {H H' : Hp} {σ : L2.St} {Γ : Gm}
/-- a slot is set to a new dict -/
theorem GOk.setM {a : Addr} (g : GOk K (also a B) F H σ Γ) (i : Nat) (hi : i < Γ.length) (na : ¬ B a) (ha : H a = some (.dT [])) :
    GOk K B (upF F i [a]) H (σ.set i (some (.ref a))) (Γ.set i (some (.m []))) := by
  have hdI : ∀ b, hd B (upF F i [a]) b → hd (also a B) F b := fun b h => by
    rcases h with z | ⟨j, z⟩
    · exact .inl (.inr z)
    · rcases upF_mem z with ⟨_, z⟩ | ⟨_, z⟩
      · exact .inl (.inl (by simpa using z))
      · exact .inr ⟨j, z⟩
  have st : Same (hid (hd (also a B) F) H) (hid (hd B (upF F i [a])) H) := fun b o q => by
    obtain ⟨q1, q2⟩ := hid_iff.mp q
    exact hid_iff.mpr ⟨fun z => q1 (hdI b z), q2⟩
  refine ⟨by rw [List.length_set, List.length_set, g.ls], fun j k b h1 h2 => ?_, fun j b h => ?_, fun b h => g.own b (hdI b h), fun j e h1 => ?_, fun j h => ?_⟩
  · rcases upF_mem h1 with ⟨e1, z1⟩ | ⟨e1, z1⟩
    · rcases upF_mem h2 with ⟨e2, z2⟩ | ⟨e2, z2⟩
      · rw [e1, e2]
      · exact absurd (.inl (by simpa using z1)) (g.out k b z2)
    · rcases upF_mem h2 with ⟨e2, z2⟩ | ⟨e2, z2⟩
      · exact absurd (.inl (by simpa using z2)) (g.out j b z1)
      · exact g.dj j k b z1 z2
  · rcases upF_mem h with ⟨_, z⟩ | ⟨_, z⟩
    · have : b = a := by simpa using z
      subst this
      exact na
    · exact fun q => g.out j b z (.inr q)
  · by_cases e1 : i = j
    · subst e1
      rw [List.getElem?_set_self hi] at h1
      cases h1
      exact ⟨.ref a, List.getElem?_set_self (by rw [g.ls]; exact hi), a, [], rfl, upF_same, ha, .nil⟩
    · rw [List.getElem?_set_ne e1] at h1
      obtain ⟨u, h2, h3⟩ := g.ent j e h1
      refine ⟨u, by rw [List.getElem?_set_ne e1]; exact h2, ?_⟩
      rw [upF_ne (Ne.symm e1)]
      exact h3.mono st fun _ _ => rfl
  · by_cases e1 : i = j
    · subst e1
      unfold nOwn at h
      rw [List.getElem?_set_self hi] at h
      cases h
    · rw [nOwn_ne e1] at h
      rw [upF_ne (Ne.symm e1)]
      exact g.nil j h
theorem GOk.setMC (g : GOk K B F H σ Γ) {i : Nat} {ps : List (List Int × PyData)} (e : Γ[i]? = some (some (.m ps))) : ∃ a kvs, σ[i]? = some (some (.ref a)) ∧ F i = [a] ∧ H a = some (.dT kvs) ∧ KvOk K (hid (hd B F) H) kvs ps ∧
    ∀ kvs' qs, KvOk K (hid (hd B F) H) kvs' qs → Step F H F (upd H a (.dT kvs')) ∧ GOk K B F (upd H a (.dT kvs')) σ (Γ.set i (some (.m qs))) := by
  obtain ⟨v, h1, a, kvs, rfl, h2, h3, h4⟩ := g.ent i _ e
  have ha : hd B F a := .inr ⟨i, by rw [h2]; simp⟩
  have sm : ∀ o, Same (hid (hd B F) H) (hid (hd B F) (upd H a o)) := fun o => hid_poke ha
  refine ⟨a, kvs, h1, h2, h3, h4, fun kvs' qs hw => ⟨⟨fun b o q n => ?_, fun j b h => .inl ⟨j, h⟩, fun b h => ?_⟩, by rw [List.length_set]; exact g.ls, g.dj, g.out, fun b h => ?_, fun j e' h' => ?_, fun j h => ?_⟩⟩
  · rw [upd_ne (fun z => n i (by rw [z, h2]; simp))]
    exact q
  · by_cases z : b = a
    · rw [z, upd_same]; simp
    · rw [upd_ne z]; exact h
  · by_cases z : b = a
    · rw [z, upd_same]; simp
    · rw [upd_ne z]; exact g.own b h
  · by_cases e1 : i = j
    · subst e1
      rw [List.getElem?_set_self (List.getElem?_eq_some_iff.mp e).1] at h'
      cases h'
      exact ⟨.ref a, h1, a, kvs', rfl, h2, upd_same, Paired.mapP hw fun _ _ z => ⟨z.1, dp_mono (sm _) _ z.2⟩⟩
    · rw [List.getElem?_set_ne e1] at h'
      obtain ⟨u, h5, h6⟩ := g.ent j _ h'
      refine ⟨u, h5, h6.mono (sm _) fun b hb => upd_ne fun z => e1 ?_⟩
      exact g.dj i j b (by rw [z, h2]; simp) hb
  · by_cases e1 : i = j
    · subst e1
      unfold nOwn at h
      rw [List.getElem?_set_self (List.getElem?_eq_some_iff.mp e).1] at h
      cases h
    · rw [nOwn_ne e1] at h
      exact g.nil j h
/-- a dict stands still from here on -/
theorem GOk.freezeM (g : GOk K B F H σ Γ) {i : Nat} {ps : List (List Int × PyData)} (e : Γ[i]? = some (some (.m ps))) : GOk K B (upF F i []) H σ (Γ.set i (some (.k ps))) := by
  obtain ⟨v, h1, a, kvs, rfl, h2, h3, h4⟩ := g.ent i _ e
  have st : Same (hid (hd B F) H) (hid (hd B (upF F i [])) H) := Step.stab step_drop
  have na : ¬ hd B (upF F i []) a := fun z => by
    rcases z with z | ⟨j, z⟩
    · exact g.out i a (by rw [h2]; simp) z
    · rcases upF_mem z with ⟨_, z⟩ | ⟨n, z⟩
      · cases z
      · exact n (g.dj j i a z (by rw [h2]; simp))
  refine ⟨by rw [List.length_set]; exact g.ls, fun j k b h1 h2 => ?_, fun j b h => ?_, fun b h => ?_, fun j e' h' => ?_, g.nilS⟩
  · rcases upF_mem h1 with ⟨_, z⟩ | ⟨_, z1⟩
    · cases z
    · rcases upF_mem h2 with ⟨_, z⟩ | ⟨_, z2⟩
      · cases z
      · exact g.dj j k b z1 z2
  · rcases upF_mem h with ⟨_, z⟩ | ⟨_, z⟩
    · cases z
    · exact g.out j b z
  · refine g.own b ?_
    rcases h with z | ⟨j, z⟩
    · exact .inl z
    · rcases upF_mem z with ⟨_, z⟩ | ⟨_, z⟩
      · cases z
      · exact .inr ⟨j, z⟩
  · by_cases e1 : i = j
    · subst e1
      rw [List.getElem?_set_self (List.getElem?_eq_some_iff.mp e).1] at h'
      cases h'
      exact ⟨.ref a, h1, a, kvs, rfl, hid_iff.mpr ⟨na, h3⟩, Paired.mapP h4 fun _ _ z => ⟨z.1, dp_mono st _ z.2⟩⟩
    · rw [List.getElem?_set_ne e1] at h'
      obtain ⟨u, h5, h6⟩ := g.ent j _ h'
      refine ⟨u, h5, ?_⟩
      rw [upF_ne (Ne.symm e1)]
      exact h6.mono st fun _ _ => rfl
end
section
variable {X : Cx} {a b c e f : Expr} {Γ : Gm} {d dv : PyData} {ds ds' : List PyData} {ps : List (List Int × PyData)} {ns : List Int} {pos p px : Pos} {x : Str} {O : Out}
theorem evp_frzM (i : Nat) (hi : Γ[i]? = some (some (.m ps))) (h : EvP X e (Γ.set i (some (.k ps))) d) : EvP X e Γ d := fun B F σ H Q g k => by
  obtain ⟨v0, h1, a, kvs, rfl, h2, h3, h4⟩ := g.ent i _ hi
  refine h B _ σ H _ (g.freezeM hi) fun v H' s q => k v H' s (dp_nd (fun b o no z => ?_) _ q)
  obtain ⟨z1, z2⟩ := hid_iff.mp z
  refine hid_iff.mpr ⟨fun w => ?_, z2⟩
  rcases w with w | ⟨j, w⟩
  · exact z1 (.inl w)
  · by_cases hj : j = i
    · subst hj
      rw [h2] at w
      rw [show b = a by simpa using w, s _ _ h3] at z2
      exact no _ (Option.some.inj z2).symm
    · exact z1 (.inr ⟨j, by rw [upF_ne hj]; exact w⟩)
theorem e1_frzM {st : Stmt} (i : Nat) (hi : Γ[i]? = some (some (.m ps))) (h : E1 X st (Γ.set i (some (.k ps))) O) : E1 X st Γ O := fun B F σ H D g w => h B _ σ H D (g.freezeM hi) (w.step step_drop)
theorem ex_frzM {sts : List Stmt} (i : Nat) (hi : Γ[i]? = some (some (.m ps))) (h : Ex X sts (Γ.set i (some (.k ps))) O) : Ex X sts Γ O := fun B F σ H D g w => h B _ σ H D (g.freezeM hi) (w.step step_drop)
theorem tup_ints {K : PySem.W.Frag} {S : Hp} {v : V} {ns : List Int} (h : Dp K S v (.tuple (ns.map PyData.int))) : ∃ q, v = .ref q ∧ S q = some (.tup ((kI ns).map kV)) := by
  cases h with
  | tup h1 h2 => exact ⟨_, rfl, by rw [kI_kV, ← dps_ints' h2]; exact h1.eq⟩
/-- d[own] -/
theorem evp_dget (i : Nat) (hu : X.A.units + 64 < cLine) (hi : Γ[i]? = some (some (.k ps))) (ho : EvP X e Γ (.tuple (ns.map PyData.int))) (hl : look ps ns = some dv) (hN : X.N[i]? = some x := by rfl) (hv : Vis X.env.scope x := by first | exact Or.inl rfl | exact Or.inr (Or.inl rfl) | exact Or.inr (Or.inr rfl))
    (hd1 : (x == ("__debug__" : Str)) = false := by decide) (hcd : (x == ("__classdict__" : Str)) = false := by decide) (hs : NoSl e := by exact fun _ _ => rfl) : EvP X (.Subscript (.Name x px) e pos) Γ dv := fun B F σ H Q g k => by
  refine sE_of (pe_dget (by omega) (pe_var hN hv hd1 hcd) pe_s hs) ?_
  obtain ⟨v0, h1, a, kvs, rfl, h3, h4⟩ := g.ent i _ hi
  refine ⟨.ref a, h1, ho B F σ H _ g fun v H1 s1 q => ?_⟩
  obtain ⟨w, rfl, h5⟩ := tup_ints q
  rcases kv_look h4 ns with ⟨z, _⟩ | ⟨d, u, z1, z2, z3⟩
  · rw [hl] at z; cases z
  · rw [hl] at z1
    obtain rfl := Option.some.inj z1
    exact ⟨a, u, rfl, .inr ⟨kvs, kI ns, w, .inl (s1 _ _ ((hid_iff.mp h3).2)), rfl, (hid_iff.mp h5).2, z2.symm⟩, k u H1 s1 (dp_mono (hid_same s1) _ z3)⟩
/-- d.get(own, dflt) -/
theorem evp_dget2 (i : Nat) {apos : Pos} (hu : X.A.units + 64 < cLine) (hi : Γ[i]? = some (some (.k ps))) (ho : EvP X e Γ (.tuple (ns.map PyData.int))) (hf : EvP X f Γ dv) (hN : X.N[i]? = some x := by rfl) (hv : Vis X.env.scope x := by first | exact Or.inl rfl | exact Or.inr (Or.inl rfl) | exact Or.inr (Or.inr rfl))
    (hd1 : (x == ("__debug__" : Str)) = false := by decide) (hcd : (x == ("__classdict__" : Str)) = false := by decide) (m : M2 X (.Name x px) "get" apos e f pos) : EvP X (.Call (.Attribute (.Name x px) "get" apos) [e, f] [] pos) Γ ((look ps ns).getD dv) := fun B F σ H Q g k => by
  refine sE_of (pe_dget2 (by omega) (pe_var hN hv hd1 hcd) pe_s pe_s m) ?_
  obtain ⟨v0, h1, a, kvs, rfl, h3, h4⟩ := g.ent i _ hi
  have h3' := (hid_iff.mp h3).2
  refine ⟨.ref a, h1, a, rfl, .inr ⟨kvs, .inl h3'⟩, ho B F σ H _ g fun v H1 s1 q => hf B F σ H1 _ (g.grow s1) fun u H2 s2 q2 => ?_⟩
  obtain ⟨w, rfl, h5⟩ := tup_ints q
  refine ⟨valV kvs (kI ns), .inr ⟨kvs, kI ns, w, .inl (s2 _ _ (s1 _ _ h3')), rfl, s2 _ _ (hid_iff.mp h5).2, rfl⟩, k _ H2 (s1.trans s2) ?_⟩
  rcases kv_look h4 ns with ⟨z1, z2⟩ | ⟨d, u', z1, z2, z3⟩
  · rw [z1, z2]
    exact q2
  · rw [z1, z2]
    exact dp_mono (hid_same (s1.trans s2)) _ z3
/-- t + u -/
theorem evp_catT (ha : EvP X a Γ (.tuple ds)) (hb : EvP X b Γ (.tuple ds')) (hl : ds.length + ds'.length ≤ sizeLine) : EvP X (.BinOp a .Add b pos) Γ (.tuple (ds ++ ds')) := fun B F σ H Q g k =>
  sE_of (pe_op op_catA pe_s pe_s) (evp_two ha hb g fun v u H' s q1 q2 => by
    obtain ⟨l1, w1, rfl, h1, h2⟩ := dp_tuple q1
    obtain ⟨l2, w2, rfl, h3, h4⟩ := dp_tuple q2
    refine ⟨l1, l2, w1, w2, rfl, rfl, same_seqT hid_le h1, same_seqT hid_le h3, by rw [dps_len h2, dps_len h4]; exact hl, fun z => ?_, fun _ z => ?_, fun _ _ l hl => ?_⟩
    · have : ds = [] := List.eq_nil_of_length_eq_zero (by rw [← dps_len h2, z]; rfl)
      refine k _ H' s ?_
      rw [this, List.nil_append]
      exact q2
    · have : ds' = [] := List.eq_nil_of_length_eq_zero (by rw [← dps_len h4, z]; rfl)
      refine k _ H' s ?_
      rw [this, List.append_nil]
      exact q1
    · have s2 := same_new (o := .tup (w1 ++ w2)) hl
      exact k _ _ (s.trans s2) (.tup (.of (hid_new (own_of g s) hl)) (dps_mono (hid_same s2) _ (dps_app h2 h4))))
/-- d[own] = e, d one's own -/
theorem e1_dput (i : Nat) {tpos : Pos} (hu : X.A.units + 64 < cLine) (hi : Γ[i]? = some (some (.m ps))) (he : EvP X e Γ dv) (ho : EvP X a Γ (.tuple (ns.map PyData.int))) (hl : ps.length < sizeLine) (z : O.N (Γ.set i (some (.m (putP ps ns dv)))))
    (hN : X.N[i]? = some x := by rfl) (hv : Vis X.env.scope x := by first | exact Or.inl rfl | exact Or.inr (Or.inl rfl) | exact Or.inr (Or.inr rfl))
    (hd1 : (x == ("__debug__" : Str)) = false := by decide) (hcd : (x == ("__classdict__" : Str)) = false := by decide) (hs : swapsWith e (some (.Subscript (.Name x px) a tpos)) pos.line X.env = pure false := by rfl) : E1 X (.Assign [.Subscript (.Name x px) a tpos] e pos) Γ O := fun B F σ H D g w => by
  refine sS_of (ps_dput (by omega) (pe_var hN hv hd1 hcd) pe_s pe_s hs) ?_
  refine he B F σ H _ g fun v H1 s1 q1 => ?_
  have g1 := g.grow s1
  obtain ⟨a0, kvs0, h1, _, _, _, _⟩ := g1.setMC hi
  refine ⟨.ref a0, h1, ho B F σ H1 _ g1 fun u H2 s2 q2 => ?_⟩
  have g2 := g1.grow s2
  obtain ⟨a, kvs, h1', h2, h3, h4, up⟩ := g2.setMC hi
  rw [h1] at h1'
  cases h1'
  obtain ⟨wq, rfl, h5⟩ := tup_ints q2
  obtain ⟨u1, u2⟩ := up (putK kvs (kI ns) v) (putP ps ns dv) (kv_put h4 ns (dp_mono (hid_same s2) _ q1))
  exact ⟨a0, _, rfl, .inr ⟨kvs, kI ns, wq, h3, rfl, (hid_iff.mp h5).2, by rw [kv_len h4]; exact hl, rfl⟩, w.nx F σ _ _ ((Step.same (s1.trans s2)).trans u1) u2 z⟩
end
end Mt

set_option maxHeartbeats 4000000
namespace Mt
open PySem PySem.Spec PyProof.Rows L2
/-! ### masks with their things, as a dict -/
def lotI (b : Nat) : List Int := (lotOf b).map fun (t : Nat) => ((t : Nat) : Int)
abbrev Grp := List (Nat × List Nat)
def grpD (gs : Grp) : List (List Int × PyData) := gs.map fun g => (lotI g.1, lotD g.2)
def getG (gs : Grp) (b : Nat) : List Nat := ((gs.find? fun g => decide (g.1 = b)).map (·.2)).getD []
def addG (t : Nat) (gs : Grp) (b : Nat) : Grp := if (gs.any fun g => decide (g.1 = b)) = true then gs.map (fun g => if g.1 = b then (g.1, getG gs b ++ [t]) else g) else gs ++ [(b, [t])]
structure Gok (gs : Grp) : Prop where
  nd : (gs.map (·.1)).Nodup
  lt : ∀ g ∈ gs, g.1 < 1024
theorem lotI_inj {a b : Nat} (ha : a < 1024) (hb : b < 1024) (h : lotI a = lotI b) : a = b := by
  have h2 : lotOf a = lotOf b := by
    unfold lotI at h
    have : ∀ l m : List Nat, l.map (fun (t : Nat) => ((t : Nat) : Int)) = m.map (fun (t : Nat) => ((t : Nat) : Int)) → l = m := by
      intro l
      induction l with
      | nil => intro m h; cases m with
        | nil => rfl
        | cons _ _ => simp at h
      | cons x l ih =>
        intro m h
        cases m with
        | nil => simp at h
        | cons y m =>
          rw [List.map_cons, List.map_cons] at h
          injection h with h1 h2
          rw [ih m h2, show x = y by omega]
    exact this _ _ h
  rw [← bitsOf_lotOf (b := a) ha, ← bitsOf_lotOf (b := b) hb, h2]
theorem lotM_I (b : Nat) : lotM b = .tuple ((lotI b).map PyData.int) := by
  unfold lotI
  rw [List.map_map]
  rfl
theorem Gok.len {gs : Grp} (h : Gok gs) : gs.length ≤ 1024 := by
  have := nd_len 1024 _ h.nd fun x hx => by
    obtain ⟨g, hg, rfl⟩ := List.mem_map.mp hx
    exact h.lt g hg
  rwa [List.length_map] at this
theorem look_grp {gs : Grp} {b : Nat} (hg : ∀ g ∈ gs, g.1 < 1024) (hb : b < 1024) : look (grpD gs) (lotI b) = (gs.find? fun g => decide (g.1 = b)).map fun g => lotD g.2 := by
  induction gs with
  | nil => rfl
  | cons g gs ih =>
    have h1 := hg g List.mem_cons_self
    by_cases e : g.1 = b
    · subst e
      simp [look, grpD, List.find?_cons]
    · have e2 : ¬ lotI g.1 = lotI b := fun z => e (lotI_inj h1 hb z)
      have := ih fun x hx => hg x (List.mem_cons_of_mem _ hx)
      simp [look, grpD, List.find?_cons, e, e2] at this ⊢
      exact this
theorem look_get {gs : Grp} {b : Nat} (hg : ∀ g ∈ gs, g.1 < 1024) (hb : b < 1024) : (look (grpD gs) (lotI b)).getD (.tuple []) = lotD (getG gs b) := by
  rw [look_grp hg hb]
  unfold getG
  cases gs.find? fun g => decide (g.1 = b) <;> rfl
theorem put_grp {gs : Grp} {b t : Nat} (hg : ∀ g ∈ gs, g.1 < 1024) (hb : b < 1024) : putP (grpD gs) (lotI b) (lotD (getG gs b ++ [t])) = grpD (addG t gs b) := by
  have hany : ((grpD gs).any fun p => decide (p.1 = lotI b)) = (gs.any fun g => decide (g.1 = b)) := by
    induction gs with
    | nil => rfl
    | cons g gs ih =>
      have := ih fun x hx => hg x (List.mem_cons_of_mem _ hx)
      have h1 := hg g List.mem_cons_self
      unfold grpD at this ⊢
      rw [List.map_cons, List.any_cons, List.any_cons, this]
      congr 1
      by_cases e : g.1 = b
      · rw [decide_eq_true e, decide_eq_true (by rw [e])]
      · rw [decide_eq_false e, decide_eq_false fun z => e (lotI_inj h1 hb z)]
  unfold putP addG
  rw [hany]
  by_cases q : (gs.any fun g => decide (g.1 = b)) = true
  · rw [if_pos q, if_pos q]
    unfold grpD
    rw [List.map_map, List.map_map]
    refine List.map_congr_left fun g hm => ?_
    have h1 := hg g hm
    show (if lotI g.1 = lotI b then _ else _) = _
    by_cases e : g.1 = b
    · rw [if_pos (by rw [e])]
      show _ = (lotI (if g.1 = b then (g.1, getG gs b ++ [t]) else g).1, lotD (if g.1 = b then (g.1, getG gs b ++ [t]) else g).2)
      rw [if_pos e]
    · rw [if_neg fun z => e (lotI_inj h1 hb z)]
      show _ = (lotI (if g.1 = b then (g.1, getG gs b ++ [t]) else g).1, lotD (if g.1 = b then (g.1, getG gs b ++ [t]) else g).2)
      rw [if_neg e]
  · rw [if_neg q, if_neg q]
    have hn : getG gs b = [] := by
      unfold getG
      rw [List.find?_eq_none.mpr fun g hm z => q (List.any_eq_true.mpr ⟨g, hm, z⟩)]
      rfl
    rw [hn]
    unfold grpD
    rw [List.map_append]
    rfl
theorem addG_keys (t : Nat) (gs : Grp) (b : Nat) : (addG t gs b).map (·.1) = if b ∈ gs.map (·.1) then gs.map (·.1) else gs.map (·.1) ++ [b] := by
  unfold addG
  by_cases q : (gs.any fun g => decide (g.1 = b)) = true
  · rw [if_pos q]
    obtain ⟨g, hm, hg⟩ := List.any_eq_true.mp q
    rw [if_pos (List.mem_map.mpr ⟨g, hm, of_decide_eq_true hg⟩), List.map_map]
    refine List.map_congr_left fun g _ => ?_
    show (if g.1 = b then _ else g).1 = g.1
    split <;> rfl
  · rw [if_neg q]
    rw [if_neg fun z => by
      obtain ⟨g, hm, hg⟩ := List.mem_map.mp z
      exact q (List.any_eq_true.mpr ⟨g, hm, decide_eq_true hg⟩), List.map_append]
    rfl
theorem addG_ok {t : Nat} {gs : Grp} {b : Nat} (h : Gok gs) (hb : b < 1024) : Gok (addG t gs b) := by
  have hk := addG_keys t gs b
  have hlt : ∀ x ∈ gs.map (·.1), x < 1024 := fun x hx => by
    obtain ⟨g, hm, rfl⟩ := List.mem_map.mp hx
    exact h.lt g hm
  refine ⟨?_, fun g hg => ?_⟩
  · rw [hk]
    split
    · exact h.nd
    · rename_i hn
      rw [List.nodup_append]
      refine ⟨h.nd, by simp, fun x hx y hy e => hn ?_⟩
      rw [show y = b by simpa using hy] at e
      rw [← e]
      exact hx
  · have : g.1 ∈ (addG t gs b).map (·.1) := List.mem_map.mpr ⟨g, hg, rfl⟩
    rw [hk] at this
    split at this
    · exact hlt _ this
    · rcases List.mem_append.mp this with this | this
      · exact hlt _ this
      · rw [show g.1 = b by simpa using this]
        exact hb
theorem addsG_ok {t : Nat} : ∀ (bs : List Nat) {gs : Grp}, Gok gs → (∀ b ∈ bs, b < 1024) → Gok (bs.foldl (addG t) gs)
  | [], _, h, _ => h
  | b :: bs, _, h, hb => addsG_ok bs (addG_ok h (hb b List.mem_cons_self)) fun x hx => hb x (List.mem_cons_of_mem _ hx)
def allG (f : Nat → List Nat) (ts : List Nat) : Grp := ts.foldl (fun gs t => (f t).foldl (addG t) gs) []
theorem allG_ok {f : Nat → List Nat} (hf : ∀ t, ∀ b ∈ f t, b < 1024) (ts : List Nat) : Gok (allG f ts) := by
  have : ∀ (ts : List Nat) (gs : Grp), Gok gs → Gok (ts.foldl (fun gs t => (f t).foldl (addG t) gs) gs) := by
    intro ts
    induction ts with
    | nil => intro gs h; exact h
    | cons t ts ih => intro gs h; exact ih _ (addsG_ok _ h (hf t))
  exact this ts [] ⟨List.nodup_nil, fun g hg => nomatch hg⟩
/-! ### in a frame where nothing is hidden -/
def EB (X : Cx) (sts : List Stmt) (Γ : Gm) (O : Out) : Prop := ∀ F σ H D, GOk X.K (fun _ => False) F H σ Γ → Wants X.K (fun _ => False) F H O D → sB X sts D σ H
section
variable {X : Cx} {a b c e f tg iter elt : Expr} {st : Stmt} {sts rest : List Stmt} {Γ : Gm} {d d1 : PyData} {ds : List PyData} {pos p p' : Pos} {x y z : Str} {O : Out}
theorem eb_ex (h : Ex X sts Γ O) : EB X sts Γ O := fun F σ H D g w => h _ F σ H D g w
theorem eb_cons (h : E1 X st Γ { O with N := fun Γ' => EB X rest Γ' O }) : EB X (st :: rest) Γ O := fun F σ H D g w =>
  b_cons (h _ F σ H _ g ⟨fun F' σ' H' Γ' s g' q => q F' σ' H' D g' (w.step s), w.rt, w.bk, w.ct⟩)
theorem eb_frzM {ps : List (List Int × PyData)} (i : Nat) (hi : Γ[i]? = some (some (.m ps))) (h : EB X sts (Γ.set i (some (.k ps))) O) : EB X sts Γ O := fun F σ H D g w => h _ σ H D (g.freezeM hi) (w.step step_drop)
/-- x = e, e's data known here -/
theorem eb_set (i : Nat) (h : ∀ F σ H, GOk X.K (fun _ => False) F H σ Γ → ∀ Q : VK, (∀ v H', Same H H' → Dp X.K (hid (hd (fun _ => False) F) H') v d → Q v H') → sE X e σ H Q) (hr : EB X rest (Γ.set i (some (.d d))) O)
    (hN : X.N.Nodup) (hi : X.N[i]? = some x := by rfl) (hx : Loc X.env.scope x := by first | exact .inl rfl | exact .inr rfl) (hs : swapsWith e (some (.Name x p')) pos.line X.env = pure false := by rfl) (hf : X.fn x = true ∨ X.env.scope.names.lookup x = some .local := by first | exact .inl rfl | exact .inr rfl) :
    EB X (.Assign [.Name x p'] e pos :: rest) Γ O := fun F σ H D g w => by
  refine b_cons (s_setE i (h F σ H g _ fun v H' s q => ?_) hN hi hx hs hf)
  exact hr _ _ H' D ((g.grow s).set i q) (w.step ((Step.same s).trans step_drop))
end
theorem fun_boolG {P : Program} {w : World} {K : PySem.W.Frag} {mg : Str → Option Value} {base : Heap} {x qual : Str} {st : Stmt} {f : Addr} {fd : FuncData} {N ps : List Str} {k : Nat} {R : List PyData → PyData → Prop} (F : Fun K x qual st f fd) (S : FnScope N ps (defScope st)) (hl : ∀ ds d, R ds d → ds.length = ps.length) (hsc : ∀ ds d, R ds d → scal d = true)
    (hb : ∀ (cdv : Value) (A : Around) (outer : List Env) (s : Shared) (H : Hp) (E : XK), Room k (A.deeper (envOfC qual (defScope st) s.heap.objs.size f cdv)) → A.guards = some [] → ∀ ds d, R ds d → EB (Cb P w K mg base N qual st f cdv A outer s H E) (defBody st) (start0 N ds) (outP d)) :
    FnG P w K mg base (k + 1) f fd ps (spP K R) := by
  refine fun_ofG F S (fun vs H Q E ⟨ds, d, B, h1, h2, h3, h4⟩ => by rw [dps_len h3]; exact hl ds d h1) (fun cdv A outer s H vs Q hr hg ⟨ds, d, B, h1, h2, h3, h4⟩ => ?_)
  have h3' : DpAll K (hid (fun _ => False) H) vs ds := dps_mono (fun b o z => hid_iff.mpr ⟨fun w => w, (hid_iff.mp z).2⟩) _ h3
  refine hb cdv A outer s H E0 hr hg ds d h1 (fun _ => []) (L2.start N vs) H _ (gok_start (fun b z => z.elim) h3') ⟨fun F' σ' H' Γ' s g' e => ?_, fun v F' σ' H' Γ' d' s g' q e => ?_, fun _ _ _ _ _ _ q => q.elim, fun _ _ _ _ _ _ q => q.elim⟩
  · exact h4 _ H' (fun b o q => s.keep b o q fun i z => (nomatch z)) (by rw [show d = PyData.none from e]; exact .non)
  · obtain rfl : d' = d := e
    exact h4 v H' (fun b o q => s.keep b o q fun i z => (nomatch z)) (dp_scal (hsc _ _ h1) q)
end Mt

set_option maxHeartbeats 4000000
namespace Mt
open PySem PySem.Spec PyProof.Rows L2
section
variable {X : Cx} {a b c e f tg iter elt : Expr} {es ifs : List Expr} {st : Stmt} {Γ : Gm} {d d1 : PyData} {ds : List PyData} {pos p p' px : Pos} {x y z : Str} {O : Out} {k : Nat} {ps : List Str} {R : List PyData → PyData → Prop}
/-- x, y, z = e, {}, {} -/
theorem e1_par3M {i j l : Nat} {px py pz pt p1 p2 : Pos} {kt k2 : Nat} {pt2 : Pos} (h1 : EvP X a Γ d1) (hjl : j < Γ.length) (hll : l < Γ.length) (z0 : O.N (((Γ.set i (some (.d d1))).set j (some (.m []))).set l (some (.m [])))) (hjl2 : j ≠ l) (hc : X.calm = true)
    (hq1 : PGs X [.Name x px, .Name y py, .Name z pz] (gCons (gName i) (gCons (gName j) (gCons (gName l) gNil))))
    (hn : (assignEach [.Name x px, .Name y py, .Name z pz] X.env).length = 3 := by rfl) (hst : (assignEach [.Name x px, .Name y py, .Name z pz] X.env).findIdx? (·.1) = none := by rfl)
    (hs : swapsWithSole [.Tuple [.Name x px, .Name y py, .Name z pz] kt pt] (.Tuple [a, .Dict [] [] p1, .Dict [] [] p2] k2 pt2) pos.line X.env = pure false := by rfl)
    (hw : swappedStores [.Tuple [.Name x px, .Name y py, .Name z pz] kt pt] (.Tuple [a, .Dict [] [] p1, .Dict [] [] p2] k2 pt2) X.env = pure none := by rfl)
    (hs1 : starEach [a, .Dict [] [] p1, .Dict [] [] p2] X.env = (false, eval a X.env) :: starEach [.Dict [] [] p1, .Dict [] [] p2] X.env := by rfl) (hs2 : starEach [.Dict [] [] p1, .Dict [] [] p2] X.env = (false, eval (.Dict [] [] p1) X.env) :: starEach [.Dict [] [] p2] X.env := by rfl) (hs3 : starEach [.Dict [] [] p2] X.env = (false, eval (.Dict [] [] p2) X.env) :: starEach [] X.env := by rfl) :
    E1 X (.Assign [.Tuple [.Name x px, .Name y py, .Name z pz] kt pt] (.Tuple [a, .Dict [] [] p1, .Dict [] [] p2] k2 pt2) pos) Γ O := fun B F σ H D g w => by
  refine sS_of (ps_asg (pe_tup (pa_cons pe_s (pa_cons pe_dnewT (pa_cons pe_dnewT pa_nil hs3) hs2) hs1)) (pg_tup hc hq1 hn hst) hs hw) ?_
  refine h1 B F σ H _ g fun v H1 s1 q1 q hq r hr => ⟨(show 3 ≤ sizeLine by decide), fun t ht => ?_⟩
  have s2 : Same H1 (upd H1 q (.dT [])) := same_new hq
  have s3 : Same (upd H1 q (.dT [])) (upd (upd H1 q (.dT [])) r (.dT [])) := same_new hr
  have eq3 : (upd (upd H1 q (.dT [])) r (.dT [])) q = some (.dT []) := s3 _ _ upd_same
  have er3 : (upd (upd H1 q (.dT [])) r (.dT [])) r = some (.dT []) := upd_same
  have nq : H q = none := s1.free hq
  have nr : H r = none := s1.free (s2.free hr)
  have s13 := s2.trans s3
  have gA : GOk X.K (also q B) F (upd H1 q (.dT [])) σ Γ := (g.grow s1).cover s2 hq (by rw [upd_same]; simp)
  have gB : GOk X.K (also r (also q B)) F (upd (upd H1 q (.dT [])) r (.dT [])) σ Γ := gA.cover s3 hr (by rw [er3]; simp)
  have s4 : Same (upd (upd H1 q (.dT [])) r (.dT [])) (upd (upd (upd H1 q (.dT [])) r (.dT [])) t (.tup [v, .ref q, .ref r])) := same_new ht
  have gC := gB.grow s4
  have eq4 := s4 _ _ eq3
  have er4 := s4 _ _ er3
  have et4 : (upd (upd (upd H1 q (.dT [])) r (.dT [])) t (.tup [v, .ref q, .ref r])) t = some (.tup [v, .ref q, .ref r]) := upd_same
  have sAll : Same H1 (upd (upd (upd H1 q (.dT [])) r (.dT [])) t (.tup [v, .ref q, .ref r])) := s13.trans s4
  generalize upd (upd (upd H1 q (.dT [])) r (.dT [])) t (.tup [v, .ref q, .ref r]) = H4 at gC eq4 er4 et4 sAll
  have q1' : Dp X.K (hid (hd (also r (also q B)) F) H4) v d1 := dp_mono (fun b o z => by
    obtain ⟨z1, z2⟩ := hid_iff.mp z
    refine hid_iff.mpr ⟨fun w => ?_, sAll b o z2⟩
    rcases w with (w | w | w) | w
    · rw [w, s2.free hr] at z2; cases z2
    · rw [w, hq] at z2; cases z2
    · exact z1 (.inl w)
    · exact z1 (.inr w)) _ q1
  have gD := gC.set i q1'
  have nqr : q ≠ r := fun z => by rw [z] at hq; rw [← z, upd_same] at hr; cases hr
  have nBr : ¬ also q B r := fun z => by
    rcases z with z | z
    · exact nqr z.symm
    · exact g.own r (.inl z) nr
  have gE := gD.setM l (by rw [List.length_set]; exact hll) nBr er4
  have nBq : ¬ B q := fun z => g.own q (.inl z) nq
  have gF := gE.setM j (by rw [List.length_set, List.length_set]; exact hjl) nBq eq4
  rw [List.set_comm _ _ (Ne.symm hjl2), List.set_comm _ _ (Ne.symm hjl2)] at gF
  refine ⟨t, _, rfl, .inl (.inl et4), rfl, _, _, rfl, _, _, rfl, _, _, rfl, rfl, w.nx _ _ H4 _ ⟨fun b o h _ => sAll b o (s1 b o h), fun k b h => ?_, fun b h => ?_⟩ gF z0⟩
  · rcases upF_mem h with ⟨_, z⟩ | ⟨_, z⟩
    · refine .inr ?_
      rw [show b = q by simpa using z]
      exact nq
    · rcases upF_mem z with ⟨_, z⟩ | ⟨_, z⟩
      · refine .inr ?_
        rw [show b = r by simpa using z]
        exact nr
      · rcases upF_mem z with ⟨_, z⟩ | ⟨_, z⟩
        · cases z
        · exact .inl ⟨k, z⟩
  · cases q : H b with
    | none => exact absurd q h
    | some o => rw [sAll b o (s1 b o q)]; simp
/-- list(d) where nothing is hidden -/
theorem list_at (hc : X.calm = true) (hm : X.mg "list" = none) {B : Addr → Prop} {F : Nat → List Addr} {σ : L2.St} {H : Hp} (g : GOk X.K B F H σ Γ) (hB : ∀ b, ¬ hd B F b) (i : Nat) {gs : Grp} (hi : Γ[i]? = some (some (.k (grpD gs)))) (hlen : gs.length ≤ 100000)
    {Q : VK} (k : ∀ v H', Same H H' → Dp X.K (hid (hd B F) H') v (.list ((gs.map (·.1)).map lotM)) → Q v H')
    (hN : X.N[i]? = some x := by rfl) (hv : Vis X.env.scope x := by first | exact Or.inl rfl | exact Or.inr (Or.inl rfl) | exact Or.inr (Or.inr rfl)) (hd1 : (x == ("__debug__" : Str)) = false := by decide) (hcd : (x == ("__classdict__" : Str)) = false := by decide)
    (hg : Gl X "list" := by rfl) (hs : starEach [.Name x px] X.env = (false, eval (.Name x px) X.env) :: starEach [] X.env := by rfl) : sE X (.Call (.Name "list" p) [.Name x px] [] pos) σ H Q := by
  obtain ⟨v0, h1, a, kvs, rfl, h3, h4⟩ := g.ent i _ hi
  refine sE_of (pe_callTy (call_list_dT hc) hg hm boot_list (pa_cons (pe_var hN hv hd1 hcd) pa_nil hs) (by decide) (by decide) hs rfl) ⟨.ref a, h1, a, kvs, rfl, .inl (hid_iff.mp h3).2, fun q bs hq hk => ?_⟩
  have s1 : Same H (upd H q (.lst (bs.map V.ref))) := same_new hq
  refine k _ _ s1 (.lst (.inl (.inl (hid_iff.mpr ⟨hB q, upd_same⟩))) ?_)
  have main : ∀ (H' : Hp) (kvs : List (List Key × V)) (gs : Grp) (bs : List Addr), Same H H' → KvOk X.K (hid (hd B F) H) kvs (grpD gs) → IsKeys H kvs bs → DpAll X.K (hid (hd B F) H') (bs.map V.ref) ((gs.map (·.1)).map lotM) := by
    intro H' kvs gs
    induction gs generalizing kvs with
    | nil =>
      intro bs s hk hb
      cases hk
      cases hb
      exact .nil
    | cons gr gs ih =>
      intro bs s hk hb
      cases hk with
      | cons hh ht =>
        cases hb with
        | cons hb1 hb2 =>
          refine .cons (.tup (.of (xs := intV (lotOf gr.1)) (hid_iff.mpr ⟨hB _, s _ _ ?_⟩)) (dps_intV _)) (ih _ _ s ht hb2)
          have e1 := hh.1
          rw [hb1, e1]
          show some (HO.tup ((kI (lotI gr.1)).map kV)) = _
          rw [kI_kV]
          unfold lotI intV
          rw [List.map_map]
          rfl
  exact main _ _ _ _ s1 h4 hk
end
end Mt

set_option maxHeartbeats 4000000
namespace Mt
open PySem PySem.Spec PyProof.Rows L2
section
variable {X : Cx} {a b c e tg iter elt : Expr} {es ifs : List Expr} {Γ : Gm} {d : PyData} {ds ds' : List PyData} {pos p : Pos} {x : Str} {k : Nat} {ps : List Str} {R : List PyData → PyData → Prop}
theorem lc_at {α : Type} {scope : Scope} {gt : TG} {ks : List Nat} {B : Addr → Prop} {F : Nat → List Addr} {σ : L2.St} {H : Hp} {Q : VK} (xs : List α) (enc : α → PyData) (tst : α → Bool) (el : α → PyData) (Γ' : α → Gm) (g : GOk X.K B F H σ Γ) (hi : ∀ R : It → Hp → Prop, (∀ J H', Same H H' → Yl X.K (hid (hd B F) H') J (xs.map enc) → R J H') → sI X tg iter σ H R) (hl : xs.length ≤ sizeLine)
    (hg : ∀ x ∈ xs, Tgt X.K gt ks Γ (enc x) (Γ' x))
    (ht : ∀ (s : Shared) (H0 : Hp) (C : Addr) (cl : List (Str × Addr)) (fp : List Addr) (x : α), x ∈ xs → EvC (Blk X s H0 scope C cl fp) ifs (Γ' x) (tst x))
    (he : ∀ (s : Shared) (H0 : Hp) (C : Addr) (cl : List (Str × Addr)) (fp : List Addr) (x : α), x ∈ xs → tst x = true → EvP (Blk X s H0 scope C cl fp) elt (Γ' x) (el x))
    (h : ∀ a vs H', Same H H' → H a = none → H' a = some (.lst vs) → DpAll X.K (hid (hd (also a B) F) H') vs ((xs.filter tst).map el) → Q (.ref a) H') : tLc (sI X tg iter) gt (sCb X scope ifs) (sEb X scope elt) ks σ H Q := by
  refine hi _ fun J H1 s1 Y D hD => ?_
  have hlen : (xs.map enc).length = xs.length := List.length_map ..
  refine ⟨fun i m H2 => m = xs.length - i ∧ i ≤ xs.length ∧ Same H1 H2 ∧ ∃ acc, H2 D = some (.lst acc) ∧ acc.length ≤ i ∧ DpAll X.K (hid (hd (also D B) F) H2) acc (((xs.take i).filter tst).map el),
    ⟨xs.length, by simp, Nat.zero_le _, same_new hD, [], upd_same, Nat.le_refl _, by simpa using DpAll.nil⟩, ?_⟩
  rintro i m H2 ⟨rfl, hi', s2, acc, hacc, hal, hq⟩
  have sS : Same (hid (hd B F) H1) H2 := hid_le.trans s2
  by_cases hlt : i < xs.length
  · refine .inr ⟨Y.go i H2 sS (by rw [hlen]; exact hlt), fun H3 => i + 1 ≤ xs.length ∧ Same H1 H3 ∧ ∃ acc, H3 D = some (.lst acc) ∧ acc.length ≤ i + 1 ∧ DpAll X.K (hid (hd (also D B) F) H3) acc (((xs.take (i + 1)).filter tst).map el),
      fun H' ⟨n1, n2, n3⟩ => ⟨xs.length - (i + 1), by omega, rfl, n1, n2, n3⟩, fun x H3 y => ?_⟩
    have hx : xs[i]? = some xs[i] := List.getElem?_eq_getElem hlt
    have hm : xs[i] ∈ xs := List.getElem_mem hlt
    obtain ⟨s3, yd⟩ := Y.yld i H2 x H3 (enc xs[i]) sS (by rw [List.getElem?_map, hx]; rfl) y
    have own : ∀ b, hd (also D B) F b → H2 b ≠ none := fun b z => by
      rcases z with (z | z) | z
      · rw [z, hacc]; simp
      · exact (g.grow (s1.trans s2)).own b (.inl z)
      · exact (g.grow (s1.trans s2)).own b (.inr z)
    have dx := yd (hd (also D B) F) own fun b o q => by
      obtain ⟨q1, q2⟩ := hid_iff.mp q
      refine hid_iff.mpr ⟨fun z => ?_, s2 b o q2⟩
      rcases z with (z | z) | z
      · rw [z, hD] at q2; cases q2
      · exact q1 (.inl z)
      · exact q1 (.inr z)
    have h3D : H3 D = some (.lst acc) := s3 _ _ hacc
    have gc : GOk X.K (also D B) F H3 σ Γ := g.cover (s1.trans (s2.trans s3)) (s1.free hD) (by rw [h3D]; simp)
    have etk : (xs.take (i + 1)) = xs.take i ++ [xs[i]] := by rw [List.take_add_one, hx]; rfl
    refine (hg _ hm).runW (also D B) F σ H3 x _ gc dx fun σ2 hw gk => ⟨hw, fun s0 H0 C cl fp => ?_⟩
    refine ht s0 H0 C cl fp _ hm (also D B) F σ2 H3 _ gk fun H4 s4 => ?_
    cases htx : tst xs[i] with
    | false =>
      refine iteF ⟨hlt, s2.trans (s3.trans s4), acc, s4 _ _ h3D, Nat.le_succ_of_le hal, ?_⟩
      rw [etk, List.filter_append, List.map_append]
      have e0 : ([xs[i]].filter tst).map el = [] := by simp [htx]
      rw [e0, List.append_nil]
      exact dps_mono (hid_same (s3.trans s4)) _ hq
    | true =>
      refine iteT fun s0 H0 C cl fp => ?_
      refine he s0 H0 C cl fp _ hm htx (also D B) F σ2 H4 _ (gk.grow s4) fun y5 H5 s5 q5 => ?_
      have h5D : H5 D = some (.lst acc) := s5 _ _ (s4 _ _ h3D)
      have sh : ∀ o, Same (hid (hd (also D B) F) H5) (hid (hd (also D B) F) (upd H5 D o)) := fun o b x q => by
        obtain ⟨q1, q2⟩ := hid_iff.mp q
        exact hid_iff.mpr ⟨q1, by rw [upd_ne (fun z => q1 (.inl (.inl z)))]; exact q2⟩
      refine ⟨acc, h5D, by omega, hlt, fun b o q => ?_, acc ++ [y5], upd_same, by simp; omega, ?_⟩
      · have ne : b ≠ D := ne_of_none q hD
        rw [upd_ne ne]
        exact s5 _ _ (s4 _ _ (s3 _ _ (s2 _ _ q)))
      · rw [etk, List.filter_append, List.map_append]
        have e1 : ([xs[i]].filter tst).map el = [el xs[i]] := by simp [htx]
        rw [e1]
        exact dps_app (dps_mono ((hid_same (s3.trans (s4.trans s5))).trans (sh _)) _ hq) (dps_one (dp_mono (sh _) _ q5))
  · have e : i = xs.length := by omega
    subst e
    refine .inl ⟨by rw [← hlen]; exact Y.stop H2 sS, ?_⟩
    rw [List.take_length] at hq
    exact h D acc H2 (s1.trans s2) (s1.free hD) hacc hq
/-- sorted(e, key=f), e known here -/
theorem sortK_at {B : Addr → Prop} {F' : Nat → List Addr} {σ : L2.St} {H : Hp} {Q : VK} {α : Type} {fn : Str} {pf pk : Pos} (xs : List α) (enc kd : α → PyData) (F : FnP X.prog X.w X.K X.mg X.base k fn ps (spP X.K R)) (hr : Room (k + 2) X.A) (h1 : ps.length = 1) (hm : X.mg "sorted" = none) (g : GOk X.K B F' H σ Γ) (ha : ∀ Q : VK, (∀ v H', Same H H' → Dp X.K (hid (hd B F') H') v (.list (xs.map enc)) → Q v H') → sE X e σ H Q) (q : ∀ a vs H', Same H H' → H a = none → H' a = some (.lst vs) → DpAll X.K (hid (hd (also a B) F') H') vs ((xs.mergeSort (PySem.W.dataLe false kd)).map enc) → Q (.ref a) H')
    (hR : ∀ x ∈ xs, R [enc x] (kd x)) (hal : PySem.W.AllAlike (xs.map kd)) (hsk : PySem.W.Sortable (xs.map kd)) (hdp : ∀ x ∈ xs, (kd x).depth ≤ 64) (hl : xs.length ≤ sizeLine) (hg : Gl X "sorted" := by rfl) (hg2 : Gl X fn := by rfl) (hdb2 : (fn == ("__debug__" : Str)) = false := by decide)
    (hs : starEach [e] X.env = (false, eval e X.env) :: starEach [] X.env := by rfl)
    (he : backTo pos (starEach [e] X.env) = (false, eval e X.env) :: backTo pos (starEach [] X.env) := by rfl) (hpl : (backTo pos (starEach [e] X.env)).any (·.1) = false := by rfl)
    (hall : (backToKw pos (keywordEach [⟨some "key", .Name fn pf, pk⟩] X.env)).all (·.1.isSome) = true := by rfl) (hnone : (backToKw pos (keywordEach [⟨some "key", .Name fn pf, pk⟩] X.env)).any (·.1.isNone) = false := by rfl) (hks : (backToKw pos (keywordEach [⟨some "key", .Name fn pf, pk⟩] X.env)).filterMap (·.1) = [Str.ofString "key"] := by rfl) :
    sE X (.Call (.Name "sorted" p) [e] [⟨some "key", .Name fn pf, pk⟩] pos) σ H Q := by
  obtain ⟨f, fd, A, G⟩ := F.ex
  have rule : CallRK X (.builtin "sorted") [Str.ofString "key"] (rSK X f xs enc kd) := fun pins s σ H us zs vs ws Q I r rz h => by
    obtain ⟨a, us', B, rfl, rfl, h1', h2, h3, h4⟩ := h
    obtain rfl := Vals.ref1 r
    obtain ⟨w1, rfl, e1⟩ := vals1 rz
    obtain rfl : w1 = Value.ref f := e1
    exact sort_key_run xs enc kd I h1' A G hr h1 h2 h3 hR hal hsk hdp hl h4
  refine sE_of (pe_callBK rule hg hm (by decide +kernel) (pa_cons pe_s pa_nil hs) (pk_cons (pe_glob (v := .ref f) hg2 A.mg rfl hdb2) pk_nil) (by decide) (by decide) he hpl hall hnone hks) (ha _ fun v H1 s1 q2 => ?_)
  obtain ⟨a, us, rfl, h2, h3⟩ := dp_list q2
  refine ⟨a, us, hd B F', rfl, rfl, hid_le.seq h2, own_of g s1, h3, fun p ws H2 s2 n h4 q4 => q p ws H2 (s1.trans s2) (s1.free n) h4 (dps_mono (fun b o z => ?_) _ q4)⟩
  obtain ⟨z1, z2⟩ := hid_iff.mp z
  exact hid_iff.mpr ⟨fun w => z1 (w.elim (fun w => w.elim .inl fun w => .inr (.inl w)) fun w => .inr (.inr w)), z2⟩

theorem noF {F : Nat → List Addr} {K : PySem.W.Frag} {H : Hp} {σ : L2.St} (g : GOk K (fun _ => False) F H σ Γ) (h : (Γ.all fun e => match e with
  | some (.l _) => false
  | some (.s _ _) => false
  | some (.m _) => false
  | _ => true) = true) : ∀ b, ¬ hd (fun _ => False) F b := fun b z => by
  rcases z with z | ⟨i, z⟩
  · exact z
  · have : nOwn Γ i = true := by
      unfold nOwn
      cases e : Γ[i]? with
      | none => rfl
      | some en =>
        have := List.all_eq_true.mp h en (List.mem_of_getElem? e)
        cases en with
        | none => rfl
        | some en => cases en <;> first | rfl | cases this
    rw [g.nil i this] at z
    cases z
theorem look_key {gs : Grp} {b : Nat} (h : Gok gs) (hb : b ∈ gs.map (·.1)) : look (grpD gs) (lotI b) = some (lotD (getG gs b)) := by
  obtain ⟨g0, hg0, e0⟩ := List.mem_map.mp hb
  rw [look_grp h.lt (by rw [← e0]; exact h.lt g0 hg0)]
  unfold getG
  cases e : gs.find? fun g => decide (g.1 = b) with
  | none =>
    have := List.find?_eq_none.mp e g0 hg0
    rw [e0] at this
    simp at this
  | some g => rfl
end
end Mt

set_option maxHeartbeats 4000000
namespace Mt
open PySem PySem.Spec PyProof.Rows L2
def rowsG (n : Nat) (rs : List Ru) : Grp := allG (tops n rs) (List.range n)
def knownG (n : Nat) (rs : List Ru) : Grp := allG (fun t => hit n (rests n rs t)) (List.range n)
structure Once (n : Nat) (rs : List Ru) : Prop where
  bk : Bk n rs
  few : (irr n (closed n rs)).length ≤ 60
  rows : ord ((rowsG n rs).map (·.1)) = irr n (closed n rs)
  bar : ∀ c ∈ irr n (closed n rs), lotOf (sd (mab n (closed n rs) c) c) = getG (rowsG n rs) c
  due : n ≤ 7 → (ord ((knownG n rs).map (·.1))).map (fun b => PyData.tuple [lotM b, lotD (getG (knownG n rs) b)]) = (dirR n rs).map ruleMD
  bkd : n ≤ 7 → Bk n (dirR n rs)
  one : n ≤ 7 → ∀ l, l < 2 ^ n → aar (dirR n rs) (aar (dirR n rs) l) = aar (dirR n rs) l
theorem allG_take {f : Nat → List Nat} {ts : List Nat} {i t : Nat} (h : ts[i]? = some t) : allG f (ts.take (i + 1)) = (f t).foldl (addG t) (allG f (ts.take i)) := by
  unfold allG
  rw [foldl_snoc h]
def Gb (k : Nat) (gs : Grp) : Prop := ∀ g ∈ gs, g.2.length ≤ k
theorem getG_len {k : Nat} {gs : Grp} (h : Gb k gs) (b : Nat) : (getG gs b).length ≤ k := by
  unfold getG
  cases e : gs.find? fun g => decide (g.1 = b) with
  | none => exact Nat.zero_le _
  | some g => exact h g (List.mem_of_find?_eq_some e)
theorem addG_b {k t : Nat} {gs : Grp} (h : Gb k gs) (b : Nat) : Gb (k + 1) (addG t gs b) := fun g hg => by
  unfold addG at hg
  split at hg
  · obtain ⟨g0, h0, e⟩ := List.mem_map.mp hg
    have h1 := h g0 h0
    split at e
    · rw [← e]
      have := getG_len h b
      show (getG gs b ++ [t]).length ≤ _
      rw [List.length_append, List.length_singleton]
      omega
    · rw [← e]
      omega
  · rcases List.mem_append.mp hg with hg | hg
    · have := h g hg
      omega
    · rw [show g = (b, [t]) by simpa using hg]
      show 1 ≤ _
      omega
theorem addsG_b {t : Nat} : ∀ (bs : List Nat) {k : Nat} {gs : Grp}, Gb k gs → Gb (k + bs.length) (bs.foldl (addG t) gs)
  | [], _, _, h => h
  | b :: bs, k, gs, h => by
    have := addsG_b (t := t) bs (addG_b (t := t) h b)
    rw [List.length_cons, Nat.add_comm bs.length, ← Nat.add_assoc]
    exact this
theorem allG_b {f : Nat → List Nat} (hf : ∀ t, (f t).length ≤ 2000) (ts : List Nat) : Gb (2000 * ts.length) (allG f ts) := by
  have : ∀ (ts : List Nat) (k : Nat) (gs : Grp), Gb k gs → Gb (k + 2000 * ts.length) (ts.foldl (fun gs t => (f t).foldl (addG t) gs) gs) := by
    intro ts
    induction ts with
    | nil => intro k gs h; exact h
    | cons t ts ih =>
      intro k gs h
      have h2 := ih _ _ (addsG_b (t := t) (f t) h)
      intro g hg
      have := h2 g hg
      have := hf t
      rw [List.length_cons]
      omega
  have := this ts 0 [] fun g hg => nomatch hg
  rw [Nat.zero_add] at this
  exact this
theorem evp_lst2 {X : Cx} {a b : Expr} {Γ : Gm} {pos : Pos} {d1 d2 : PyData} (ha : EvP X a Γ d1) (hb : EvP X b Γ d2) (hs : starEach [a, b] X.env = (false, eval a X.env) :: starEach [b] X.env := by rfl) (hs2 : starEach [b] X.env = (false, eval b X.env) :: starEach [] X.env := by rfl) : EvP X (.List [a, b] pos) Γ (.list [d1, d2]) := evf_p (evf_lst (eva_cons ha (eva_1 hb hs2) hs))
section
variable {P : Program} {w : World} {K : PySem.W.Frag} {mg : Str → Option Value} {base : Heap} {f : Addr} {fd : FuncData}
abbrev nAo : List Str := ["_law_tome_here", "_law_tops", "_law_aheads", "_law_wide", "_law_rows_then", "_law_known", "_law_one", "_law_own", "_law_lone", "_law_told", "_law_due"]
theorem sc_w_at_once : FnScope nAo ["_law_tome_here", "_law_tops", "_law_aheads"] (defScope s_w_at_once) := ⟨rfl, rfl, rfl, by decide +kernel, rfl, by decide +kernel, by decide +kernel⟩
def R_w_at_once (ds : List PyData) (d : PyData) : Prop := ∃ n rs, Once n rs ∧ ds = [bookD n rs, topsD n rs, ahD n rs] ∧ d = .bool true
theorem ok_w_at_once (F : Fun K "_law_at_once" "_law_at_once" s_w_at_once f fd) (T : Mg mg) (Fk : FnP P w K mg base 1 "_law_rank" ["_law_own"] (spP K R_lot_key)) (Ft : FnP P w K mg base 7 "table_of" ["book"] (spP K R_table_of)) (Fb : FnP P w K mg base 7 "barred" ["book", "lot"] (spP K R_barred)) (Fd : FnP P w K mg base 6 "direct" ["book"] (spP K R_direct)) (Ff : FnP P w K mg base 6 "first_far" ["size", "rules"] (spP K R_first_far)) :
    FnG P w K mg base 8 f fd ["_law_tome_here", "_law_tops", "_law_aheads"] (spP K R_w_at_once) := by
  refine fun_boolG F sc_w_at_once (fun ds d ⟨_, _, _, e, _⟩ => by rw [e]; rfl) (fun ds d ⟨_, _, _, _, e⟩ => by rw [e]; rfl) (fun cdv A outer s H E hr hgd ds d ⟨n, rs, hf, e1, e2⟩ => ?_)
  subst e1 e2
  have hn := hf.bk.n10
  have hp := pow10 hn
  have htl : ∀ t, ∀ b ∈ tops n rs t, b < 1024 := fun t b hb => tops_lt hf.bk hb
  have hhl : ∀ t, ∀ b ∈ hit n (rests n rs t), b < 1024 := fun t b hb => Nat.lt_of_lt_of_le (hit_lt hb) hp
  have hat : ∀ (g : Nat → PyData) (t : Nat), t < n → atI ((List.range n).map g) ((t : Nat) : Int) = some (g t) := fun g t ht => L2.atI_nat (by rw [List.getElem?_map, List.getElem?_range ht]; rfl)
  let G : Option Ent → Option Ent → Option Ent → Option Ent → Gm := fun e4 e5 e6 e7 => [some (.d (bookD n rs)), some (.d (topsD n rs)), some (.d (ahD n rs)), some (.d (nt n)), e4, e5, e6, e7, none, none, none]
  refine eb_cons (e1_par3M (i := 3) (j := 4) (l := 5) (d1 := nt n) (evp_ixT (evp_var 0) (evn_k 0) rfl) (by show 4 < 11; decide) (by show 5 < 11; decide) ?_ (by decide) rfl (pgs_cons (pg_name (i := 3) sc_w_at_once.nd rfl (by first | exact .inl rfl | exact .inr rfl)) (pgs_cons (pg_name (i := 4) sc_w_at_once.nd rfl (by first | exact .inl rfl | exact .inr rfl)) (pgs_cons (pg_name (i := 5) sc_w_at_once.nd rfl (by first | exact .inl rfl | exact .inr rfl)) pgs_nil))))
  refine eb_cons (e1_forG 6 (List.range n) nt (fun i => G (some (.m (grpD (allG (tops n rs) ((List.range n).take i))))) (some (.m (grpD (allG (fun t => hit n (rests n rs t)) ((List.range n).take i))))) none none) (evi_rngN T.range (evp_var 3) (by omega)) rfl (fun _ => rfl) (fun i t hx => ?_) ?_ PassesOwn.never rfl sc_w_at_once.nd)
  · have htn : t < n := List.mem_range.mp (List.mem_of_getElem? hx)
    have ok1 := allG_ok htl ((List.range n).take i)
    have hb1 := allG_b (fun t => Nat.le_trans (tops_len hf.bk t) (by decide)) ((List.range n).take i)
    have hb2 := allG_b (fun t => hitLen hn (rests n rs t)) ((List.range n).take i)
    have ok2 := allG_ok hhl ((List.range n).take i)
    have r1 : allG (tops n rs) ((List.range n).take (i + 1)) = _ := allG_take hx
    have r2 : allG (fun t => hit n (rests n rs t)) ((List.range n).take (i + 1)) = _ := allG_take hx
    generalize allG (tops n rs) ((List.range n).take i) = g1 at ok1 r1 hb1
    generalize allG (fun t => hit n (rests n rs t)) ((List.range n).take i) = g2 at ok2 r2 hb2
    rw [r1, r2]
    refine ex_dropN 7 (ex_cons (e1_forG 7 (tops n rs t) lotM (fun j => G (some (.m (grpD (((tops n rs t).take j).foldl (addG t) g1)))) (some (.m (grpD g2))) (some (.d (nt t))) none) (evi_tup (evp_ixL (evp_var 1) (evp_var 6) (hat _ t htn))) rfl (fun _ => rfl) (fun j b hy => ?_) ?_ PassesOwn.never rfl sc_w_at_once.nd))
    · have ok3 : Gok (((tops n rs t).take j).foldl (addG t) g1) := addsG_ok _ ok1 fun x hx => htl t x (List.mem_of_mem_take hx)
      have hb3 := addsG_b (t := t) ((tops n rs t).take j) hb1
      have r3 : ((tops n rs t).take (j + 1)).foldl (addG t) g1 = _ := foldl_snoc hy
      generalize ((tops n rs t).take j).foldl (addG t) g1 = g3 at ok3 r3 hb3
      have hb := htl t b (List.mem_of_getElem? hy)
      rw [r3]
      refine ex_one (e1_dput 4 (ps := grpD g3) (ns := lotI b) (dv := lotD (getG g3 b ++ [t])) (un64 hr) rfl (evp_frzM 4 rfl ?_) (by rw [← lotM_I]; exact evp_var 7) (by unfold grpD; rw [List.length_map]; exact Nat.lt_of_le_of_lt ok3.len (by decide)) ?_)
      · rw [show lotD (getG g3 b ++ [t]) = .tuple ((getG g3 b).map nt ++ [nt t]) by rw [lotD, List.map_append] <;> rfl]
        refine evp_catT ?_ (evp_tup (eva_1 (evp_var 6))) ?_
        · show EvP _ _ _ (lotD (getG g3 b))
          rw [← look_get ok3.lt hb]
          exact evp_dget2 4 (un64 hr) rfl (by rw [← lotM_I]; exact evp_var 7) (evp_tup eva_nil) (m := ⟨rfl, rfl, rfl, rfl⟩)
        · rw [List.length_map]
          have hb3 : Gb (2000 * ((List.range n).take i).length + ((tops n rs t).take j).length) g3 := hb3
          have h1 := getG_len hb3 b
          have h2 : ((List.range n).take i).length ≤ 10 := by rw [List.length_take, List.length_range]; omega
          have h3 : ((tops n rs t).take j).length ≤ 1024 := by rw [List.length_take]; have := tops_len hf.bk t; omega
          exact Nat.le_trans (show _ ≤ 22000 by show (getG g3 b).length + 1 ≤ 22000; omega) (by decide)
      · rw [put_grp ok3.lt hb]
        rfl
    · rw [List.take_length]
      have ok4 : Gok ((tops n rs t).foldl (addG t) g1) := addsG_ok _ ok1 (htl t)
      generalize (tops n rs t).foldl (addG t) g1 = g4
      refine ex_one (e1_forG 7 (hit n (rests n rs t)) lotM (fun j => G (some (.m (grpD g4))) (some (.m (grpD (((hit n (rests n rs t)).take j).foldl (addG t) g2)))) (some (.d (nt t))) none) (evi_list (evp_ixL (evp_var 2) (evp_var 6) (hat _ t htn))) rfl (fun _ => rfl) (fun j b hy => ?_) ?_ PassesOwn.never rfl sc_w_at_once.nd)
      · have ok3 : Gok (((hit n (rests n rs t)).take j).foldl (addG t) g2) := addsG_ok _ ok2 fun x hx => hhl t x (List.mem_of_mem_take hx)
        have hb3 := addsG_b (t := t) ((hit n (rests n rs t)).take j) hb2
        have r3 : ((hit n (rests n rs t)).take (j + 1)).foldl (addG t) g2 = _ := foldl_snoc hy
        generalize ((hit n (rests n rs t)).take j).foldl (addG t) g2 = g3 at ok3 r3 hb3
        have hb := hhl t b (List.mem_of_getElem? hy)
        rw [r3]
        refine ex_one (e1_dput 5 (ps := grpD g3) (ns := lotI b) (dv := lotD (getG g3 b ++ [t])) (un64 hr) rfl (evp_frzM 5 rfl ?_) (by rw [← lotM_I]; exact evp_var 7) (by unfold grpD; rw [List.length_map]; exact Nat.lt_of_le_of_lt ok3.len (by decide)) ?_)
        · rw [show lotD (getG g3 b ++ [t]) = .tuple ((getG g3 b).map nt ++ [nt t]) by rw [lotD, List.map_append] <;> rfl]
          refine evp_catT ?_ (evp_tup (eva_1 (evp_var 6))) ?_
          · show EvP _ _ _ (lotD (getG g3 b))
            rw [← look_get ok3.lt hb]
            exact evp_dget2 5 (un64 hr) rfl (by rw [← lotM_I]; exact evp_var 7) (evp_tup eva_nil) (m := ⟨rfl, rfl, rfl, rfl⟩)
          · rw [List.length_map]
            have h1 := getG_len hb3 b
            have h2 : ((List.range n).take i).length ≤ 10 := by rw [List.length_take, List.length_range]; omega
            have h3 : ((hit n (rests n rs t)).take j).length ≤ 2000 := by rw [List.length_take]; have := hitLen hn (rests n rs t); omega
            exact Nat.le_trans (show _ ≤ 23000 by show (getG g3 b).length + 1 ≤ 23000; omega) (by decide)
        · rw [put_grp ok3.lt hb]
          rfl
      · rw [List.take_length]
        rfl
  rw [List.take_length]
  show EB _ _ (G (some (.m (grpD (rowsG n rs)))) (some (.m (grpD (knownG n rs)))) none none) _
  have okr : Gok (rowsG n rs) := allG_ok htl _
  have okk : Gok (knownG n rs) := allG_ok hhl _
  refine eb_frzM 4 rfl (eb_frzM 5 rfl ?_)
  show EB _ _ (G (some (.k (grpD (rowsG n rs)))) (some (.k (grpD (knownG n rs)))) none none) _
  -- lone
  refine eb_set 8 (d := lotsD (irr n (closed n rs))) (fun F σ H g Q k => ?_) ?_ sc_w_at_once.nd
  · have hB := noF g rfl
    refine sE_of (pe_tupleOf rfl T.tuple pe_s) (sortK_at ((rowsG n rs).map (·.1)) lotM kdM Fk (hr.mono (by decide)) rfl T.sorted g (fun Q k => list_at rfl T.list g hB 4 rfl (by have := okr.len; omega) k) (fun a vs H1 s1 n1 e1 q1 => .inl ⟨a, vs, rfl, .inl (.inl e1), fun l hl => ?_⟩)
      (fun x _ => ⟨lotOf x, rfl, rfl⟩) (allAlike_kd _ lotOf) (sortable_kd _ lotOf) (fun x _ => depth_kd _) (by rw [List.length_map]; exact Nat.le_trans okr.len (by decide)))
    have s2 := same_new (o := .tup vs) hl
    refine k _ _ (s1.trans s2) ?_
    rw [← hf.rows]
    refine .tup (.of (hid_iff.mpr ⟨hB l, upd_same⟩)) (dps_mono (fun b o z => ?_) _ q1)
    obtain ⟨z1, z2⟩ := hid_iff.mp z
    exact hid_iff.mpr ⟨hB b, s2 _ _ z2⟩
  have hirr : ∀ c ∈ irr n (closed n rs), c ∈ closed n rs := fun c hc => (List.mem_filter.mp hc).1
  have hkey : ∀ c ∈ irr n (closed n rs), c ∈ (rowsG n rs).map (·.1) := fun c hc => by
    rw [← hf.rows] at hc
    exact mem_ord.mp hc
  have hfew := hf.few
  -- told
  refine eb_cons (e1_set 9 (ev_p (evp_lst2 (evp_call Ft (hr.mono (by decide)) ⟨n, rs, hf.bk, hf.few, rfl, rfl⟩ (eva_1 (evp_var 0))) (evp_tupL (ds := (irr n (closed n rs)).map fun c => lotM (sd (mab n (closed n rs) c) c)) T.tuple (evf_p (evf_c1 sc_w_at_once (lc1n 7 (irr n (closed n rs)) lotM (fun c => lotM (sd (mab n (closed n rs) c) c)) (evi_tup (evp_var 8)) (by omega) (fun _ _ _ _ _ c hc => evp_call Fb (hr.mono (by decide)) ⟨n, rs, c, hf.bk, hirr c hc, rfl, rfl⟩ (eva_cons (evp_var 0) (eva_1 (evp_var 7)))))))) ) ?_) sc_w_at_once.nd)
  have r1 : Rp 4 150000 (.tuple [nt n, lotsD (irr n (closed n rs))]) := (rp_tup (rps_cons ((rp_nt hn).mono (h' := 3) (by decide) (Nat.le_refl _)) (rps_cons (rp_lots (by omega)) rps_nil) : Rps 3 (4 + 2 + (140000 + 2 + 0)) _)).mono (by decide) (by decide)
  have r2 : Rp 4 150000 (.tuple ((irr n (closed n rs)).map fun c => lotM (sd (mab n (closed n rs) c) c))) := (rp_tup ((rps_map (h := 3) (k := 64) (irr n (closed n rs)) fun c _ => (rp_lot _).mono (by decide) (Nat.le_refl _)).mono (k' := 132000) (Nat.le_refl _) (by omega))).mono (by decide) (by decide)
  have r3 : Rp 5 400000 (.list [.tuple [nt n, lotsD (irr n (closed n rs))], .tuple ((irr n (closed n rs)).map fun c => lotM (sd (mab n (closed n rs) c) c))]) := (rp_list (rps_cons r1 (rps_cons r2 rps_nil) : Rps 4 (150000 + 2 + (150000 + 2 + 0)) _)).mono (by decide) (by decide)
  refine eb_cons (e1_if (evt_neS (evp_repr1 (ds := [.tuple [nt n, lotsD (irr n (closed n rs))], .tuple ((irr n (closed n rs)).map fun c => lotM (sd (mab n (closed n rs) c) c))]) hgd (un64 hr) T.repr (evp_var 9) (.inl rfl) r3 (by decide) (by decide))
    (evp_repr1 hgd (un64 hr) T.repr (evp_lst2 (evp_tup (eva_cons (evp_var 3) (eva_1 (evp_var 8)))) (evp_tupL (ds := (irr n (closed n rs)).map fun c => lotM (sd (mab n (closed n rs) c) c)) T.tuple (evf_p (evf_c1 sc_w_at_once (lc1n 7 (irr n (closed n rs)) lotM (fun c => lotM (sd (mab n (closed n rs) c) c)) (evi_tup (evp_var 8)) (by omega) (fun _ _ _ _ _ c hc => evp_dget 4 (ns := lotI c) (un64 hr) rfl (by rw [← lotM_I]; exact evp_var 7) (by rw [look_key okr (hkey c hc), ← hf.bar c hc])))))) ) (.inl rfl) r3 (by decide) (by decide))) (fun hk => ?_) (fun hk => ex_nil ?_))
  · rw [decide_eq_true rfl] at hk
    cases hk
  refine eb_cons (e1_if (etn_gt (evp_var 3) (evn_k 7)) (fun _ => ex_one (e1_ret (ev_p evp_bool rfl))) (fun h7 => ex_nil ?_))
  have h7' : n ≤ 7 := by
    have := of_decide_eq_false h7
    omega
  have hdue := hf.due h7'
  have hbkd := hf.bkd h7'
  have hone := hf.one h7'
  -- due
  refine eb_set 10 (d := .tuple ((dirR n rs).map ruleMD)) (fun F σ H g Q k => ?_) ?_ sc_w_at_once.nd
  · have hB := noF g rfl
    refine sE_of (pe_tupleOf rfl T.tuple pe_s) ?_
    refine sE_of (pe_lc rfl sc_w_at_once.nd pi_s (blkOk_by (own := [("_law_own", 7)]) (N := nAo) (sc := defScope s_w_at_once) (by decide +kernel)) (fun _ _ _ _ _ => pg_name (i := 7) sc_w_at_once.nd rfl (by first | exact .inl rfl | exact .inr rfl)) (fun s H C cl fp => (⟨fun pins s' _ _ _ I q => q s H C cl fp pins s' I⟩ : PTs (Blk _ s H _ C cl fp) _ (sCb _ _ _))) (fun s H C cl fp => (⟨fun pins s' _ _ _ I q => q s H C cl fp pins s' I⟩ : PE (Blk _ s H _ C cl fp) _ (sEb _ _ _)))) ?_
    refine lc_at (ord ((knownG n rs).map (·.1))) lotM (fun _ => true) (fun b => .tuple [lotM b, lotD (getG (knownG n rs) b)]) (fun b => List.set [some (.d (bookD n rs)), some (.d (topsD n rs)), some (.d (ahD n rs)), some (.d (nt n)), some (.k (grpD (rowsG n rs))), some (.k (grpD (knownG n rs))), none, none, some (.d (lotsD (irr n (closed n rs)))), some (.d (.list [.tuple [nt n, lotsD (irr n (closed n rs))], .tuple ((irr n (closed n rs)).map fun c => lotM (sd (mab n (closed n rs) c) c))])), none] 7 (some (.d (lotM b)))) g (fun R kR => ?_) ?_ (fun x _ => tgt_name rfl) (fun _ _ _ _ _ _ _ => evc_nil) (fun _ _ _ _ _ b hb _ => ?_) (fun a vs H1 s1 n1 e1 q1 => ?_)
    · refine sI_of (pi_list pe_s) (sortK_at ((knownG n rs).map (·.1)) lotM kdM Fk (hr.mono (by decide)) rfl T.sorted g (fun Q k => list_at rfl T.list g hB 5 rfl (by have := okk.len; omega) k) (fun a vs H1 s1 n1 e1 q1 => ?_)
        (fun x _ => ⟨lotOf x, rfl, rfl⟩) (allAlike_kd _ lotOf) (sortable_kd _ lotOf) (fun x _ => depth_kd _) (by rw [List.length_map]; exact Nat.le_trans okk.len (by decide)))
      refine ⟨a, rfl, ⟨vs, .inl (.inl e1)⟩, kR _ H1 s1 (yl_list (.inl (.inl (hid_iff.mpr ⟨hB a, e1⟩))) (dps_mono (fun b o z => ?_) _ q1))⟩
      obtain ⟨z1, z2⟩ := hid_iff.mp z
      exact hid_iff.mpr ⟨hB b, z2⟩
    · rw [ord_len, List.length_map]
      exact Nat.le_trans okk.len (by decide)
    · exact evp_tup (eva_cons (evp_var 7) (eva_1 (evp_dget 5 (ns := lotI b) (un64 hr) rfl (by rw [← lotM_I]; exact evp_var 7) (look_key okk (mem_ord.mp hb)))))
    · refine .inl ⟨a, vs, rfl, .inl (.inl e1), fun l hl => ?_⟩
      have s2 := same_new (o := .tup vs) hl
      refine k _ _ (s1.trans s2) ?_
      rw [← hdue]
      have ef : (ord ((knownG n rs).map (·.1))).filter (fun _ => true) = ord ((knownG n rs).map (·.1)) := List.filter_eq_self.mpr fun _ _ => rfl
      rw [ef] at q1
      refine .tup (.of (hid_iff.mpr ⟨hB l, upd_same⟩)) (dps_mono (fun b o z => ?_) _ q1)
      obtain ⟨z1, z2⟩ := hid_iff.mp z
      exact hid_iff.mpr ⟨hB b, s2 _ _ z2⟩
  have hdl := hbkd.few
  have r4 : Rp 4 200000 (.tuple ((dirR n rs).map ruleMD)) := by
    refine (rp_tup ((rps_map (h := 3) (k := 140) (dirR n rs) fun r _ => ?_).mono (k' := 150000) (Nat.le_refl _) (by omega))).mono (by decide) (by decide)
    exact (rp_tup (rps_cons (rp_lot _) (rps_cons (rp_lot _) rps_nil) : Rps 2 (64 + 2 + (64 + 2 + 0)) _)).mono (by decide) (by decide)
  have r5 : Rp 5 300000 (.list [.tuple ((dirR n rs).map ruleMD), .none]) := (rp_list (rps_cons r4 (rps_cons (rp_none.mono (h' := 4) (by decide) (Nat.le_refl _)) rps_nil) : Rps 4 (200000 + 2 + (4 + 2 + 0)) _)).mono (by decide) (by decide)
  refine eb_ex (ex_one (e1_ret (ev_p (evp_eqS (evp_repr1 (d := .list [.tuple ((dirR n rs).map ruleMD), .none]) hgd (un64 hr) T.repr (evp_lst2 (evp_call Fd (hr.mono (by decide)) ⟨n, rs, hf.bk, rfl, rfl⟩ (eva_1 (evp_var 0))) (evp_call Ff (hr.mono (by decide)) ⟨n, dirR n rs, hbkd, hone, rfl, rfl⟩ (eva_cons (evp_var 3) (eva_1 (evp_var 10))))) (.inl rfl) r5 (by decide) (by decide))
    (evp_repr1 (d := .list [.tuple ((dirR n rs).map ruleMD), .none]) hgd (un64 hr) T.repr (evp_lst2 (evp_var 10) evp_none) (.inl rfl) r5 (by decide) (by decide))) ?_)))
  rw [decide_eq_true rfl]
  rfl
end
end Mt

set_option maxHeartbeats 4000000
namespace Mt
open PySem PySem.Spec PyProof.Rows L2
section
variable {K : PySem.W.Frag} {B : Addr → Prop} {F : Nat → List Addr} {H H' : Hp} {σ : L2.St} {Γ : Gm}
/-- a slot is set to a new spring -/
theorem GOk.setS {a g0 kn : Addr} {n : Nat} (g : GOk K (fun b => b ∈ [a, g0, kn] ∨ B b) F H σ Γ) (i : Nat) (hi : i < Γ.length) (na : ∀ b ∈ [a, g0, kn], ¬ B b) (ha : Spr H a g0 kn n) :
    GOk K B (upF F i [a, g0, kn]) H (σ.set i (some (.ref a))) (Γ.set i (some (.s a n))) := by
  have hdI : ∀ b, hd B (upF F i [a, g0, kn]) b → hd (fun b => b ∈ [a, g0, kn] ∨ B b) F b := fun b h => by
    rcases h with z | ⟨j, z⟩
    · exact .inl (.inr z)
    · rcases upF_mem z with ⟨_, z⟩ | ⟨_, z⟩
      · exact .inl (.inl z)
      · exact .inr ⟨j, z⟩
  have st : Same (hid (hd (fun b => b ∈ [a, g0, kn] ∨ B b) F) H) (hid (hd B (upF F i [a, g0, kn])) H) := fun b o q => by
    obtain ⟨q1, q2⟩ := hid_iff.mp q
    exact hid_iff.mpr ⟨fun z => q1 (hdI b z), q2⟩
  refine ⟨by rw [List.length_set, List.length_set, g.ls], fun j k b h1 h2 => ?_, fun j b h => ?_, fun b h => g.own b (hdI b h), fun j e h1 => ?_, fun j h => ?_⟩
  · rcases upF_mem h1 with ⟨e1, z1⟩ | ⟨e1, z1⟩
    · rcases upF_mem h2 with ⟨e2, z2⟩ | ⟨e2, z2⟩
      · rw [e1, e2]
      · exact absurd (.inl z1) (g.out k b z2)
    · rcases upF_mem h2 with ⟨e2, z2⟩ | ⟨e2, z2⟩
      · exact absurd (.inl z2) (g.out j b z1)
      · exact g.dj j k b z1 z2
  · rcases upF_mem h with ⟨_, z⟩ | ⟨_, z⟩
    · exact na b z
    · exact fun q => g.out j b z (.inr q)
  · by_cases e1 : i = j
    · subst e1
      rw [List.getElem?_set_self hi] at h1
      cases h1
      exact ⟨.ref a, List.getElem?_set_self (by rw [g.ls]; exact hi), rfl, g0, kn, upF_same, ha⟩
    · rw [List.getElem?_set_ne e1] at h1
      obtain ⟨u, h2, h3⟩ := g.ent j e h1
      refine ⟨u, by rw [List.getElem?_set_ne e1]; exact h2, ?_⟩
      rw [upF_ne (Ne.symm e1)]
      exact h3.mono st fun _ _ => rfl
  · by_cases e1 : i = j
    · subst e1
      unfold nOwn at h
      rw [List.getElem?_set_self hi] at h
      cases h
    · rw [nOwn_ne e1] at h
      rw [upF_ne (Ne.symm e1)]
      exact g.nil j h
end
/-- x = _law_spring(e) -/
theorem e1_spring {X : Cx} {e : Expr} {Γ : Gm} {O : Out} {x fn : Str} {p p' pos spos : Pos} {k : Nat} {ps : List Str} {zs : List Int} (F : FnP X.prog X.w X.K X.mg X.base k fn ps (spNew X.K)) (hr : Room k X.A) (i : Nat) (hi : i < Γ.length) (ha : EvP X e Γ (.list (zs.map PyData.int))) (hz : ∀ z ∈ zs, z.natAbs < 2 ^ 1048576) (z : ∀ a, O.N (Γ.set i (some (.s a 0))))
    (hN : X.N.Nodup) (hi2 : X.N[i]? = some x := by rfl) (hx : Loc X.env.scope x := by first | exact .inl rfl | exact .inr rfl) (hg : Gl X fn := by rfl) (hdb : (fn == ("__debug__" : Str)) = false := by decide) (hf : X.fn x = true ∨ X.env.scope.names.lookup x = some .local := by first | exact .inl rfl | exact .inr rfl)
    (he : starEach [e] X.env = (false, eval e X.env) :: starEach [] X.env := by rfl) (hpl : (backTo pos (starEach [] X.env)).any (·.1) = false := by rfl) (hs : swapsWith (.Call (.Name fn p) [e] [] pos) (some (.Name x p')) spos.line X.env = pure false := by rfl) :
    E1 X (.Assign [.Name x p'] (.Call (.Name fn p) [e] [] pos) spos) Γ O := fun B F' σ H D g w => by
  obtain ⟨f, fd, A, G⟩ := F.ex
  refine s_setE i (sE_of (pe_call G hr hg A.mg A.kp A.b .nil pass0 (pa_s (es := [e])) hdb he hpl) ?_) hN hi2 hx hs hf
  refine eva_1 ha he B F' σ H _ g fun vs H1 s1 q1 => ?_
  show spNew X.K (vs ++ []) H1 _ E0
  rw [List.append_nil]
  refine ⟨hd B F', zs, hz, own_of g s1, q1, fun a g0 kn H2 s2 na ng nk sp => ?_⟩
  have hz : ∀ b, b ∈ [a, g0, kn] → H1 b = none := fun b hb => by
    simp only [List.mem_cons, List.not_mem_nil, or_false] at hb
    rcases hb with rfl | rfl | rfl
    · exact na
    · exact ng
    · exact nk
  have gc := (g.grow s1).coverL (Z := fun b => b ∈ [a, g0, kn]) s2 hz (spr_trk sp)
  have gs := gc.setS i hi (fun b hb w => (g.grow s1).own b (.inl w) (hz b hb)) sp
  refine w.nx _ _ H2 _ ⟨fun b o q _ => s2 b o (s1 b o q), fun j b q => ?_, fun b q => ?_⟩ gs (z a)
  · rcases upF_mem q with ⟨_, q⟩ | ⟨_, q⟩
    · exact .inr (s1.free (hz b q))
    · exact .inl ⟨j, q⟩
  · cases r : H b with
    | none => exact absurd r q
    | some o => rw [s2 b o (s1 b o r)]; simp
end Mt

set_option maxHeartbeats 4000000
namespace Mt
open PySem PySem.Spec PyProof.Rows L2
/-- what the law rests on -/
structure Good (n : Nat) (rs : List Ru) (fam : List Nat) : Prop where
  bk : Bk n rs
  fd : ∀ t, t < n → Fnd n rs fam t
  ht : ∀ t, t < n → Hit n rs t
  ky : Keyf n rs
  cl : Clos n rs
  oc : Once n rs
def AllGood : Prop := ∀ n rs fam, Bok n rs fam → Good n rs fam
abbrev needsD (n : Nat) (rs : List Ru) : PyData := .list ((List.range n).map fun t => dueR t (hit n (rests n rs t)))
theorem shp_needs (n : Nat) (rs : List Ru) : shp 5 (needsD n rs) := shp_list (shps_map _ fun t _ => shp_tup (shps_map _ fun b _ => shp_tup (shps_cons (shp_lot _) (shps_cons (shp_mono (shp_tup (shps_cons (shp_int _) shps_nil)) (by decide)) shps_nil))))
section
variable {P : Program} {w : World} {K : PySem.W.Frag} {mg : Str → Option Value} {base : Heap} {f : Addr} {fd : FuncData}
abbrev nLw : List Str := ["_law_script", "_law_spring_here", "_law_turn", "_law_tome_here", "_law_family", "_law_wide", "_law_asked", "_law_one", "_law_tops", "_law_needs_here", "_law_aheads", "_law_need", "_law_some_here"]
theorem sc_law : FnScope nLw ["_law_script"] (defScope s_law) := ⟨rfl, rfl, rfl, by decide +kernel, rfl, by decide +kernel, by decide +kernel⟩
def R_law (ds : List PyData) (d : PyData) : Prop := ∃ zs : List Int, (∀ z ∈ zs, z.natAbs < 2 ^ 1048576) ∧ ds = [.list (zs.map PyData.int)] ∧ d = .bool true
theorem ok_law (M : AllGood) (F : Fun K "law" "law" s_law f fd) (T : Mg mg) (Fsp : FnP P w K mg base 1 "_law_spring" ["_law_script"] (spNew K)) (Fbk : FnP P w K mg base 4 "_law_book" ["_law_spring_here"] (spS K 600 preK postK)) (Fdr : FnP P w K mg base 1 "_law_draw" ["_law_spring_here", "_law_many"] (spS K 1 preD postD))
    (Fgw : FnP P w K mg base 8 "greatest_without" ["book", "thing"] (spP K R_greatest_without)) (Frf : FnP P w K mg base 8 "rules_for" ["book", "thing"] (spP K R_rules_for))
    (Gfo : FnPG P w K mg base 9 "_law_is_found" ["_law_tome_here", "_law_family", "_law_one"] (spP K R_w_is_found)) (Ghi : FnPG P w K mg base 9 "_law_is_hit" ["_law_tome_here", "_law_one", "_law_tops", "_law_needs_here"] (spP K R_w_is_hit))
    (Gao : FnPG P w K mg base 8 "_law_at_once" ["_law_tome_here", "_law_tops", "_law_aheads"] (spP K R_w_at_once)) (Gbc : FnPG P w K mg base 4 "_law_by_closures" ["_law_spring_here", "_law_tome_here", "_law_tops", "_law_aheads"] (spS K 50 preC postT)) (Gke : FnPG P w K mg base 10 "_law_is_key" ["_law_tome_here"] (spP K R_w_is_key)) :
    FnG P w K mg base 11 f fd ["_law_script"] (spP K R_law) := by
  refine fun_pureG F sc_law (fun ds d ⟨_, _, e, _⟩ => by rw [e]; rfl) (fun cdv A outer s H E hr hgd ds d ⟨zs, hz, e1, e2⟩ => ?_)
  subst e1 e2
  have loc : ∀ {x : Str}, True := fun {_} => trivial
  refine ex_cons (e1_spring Fsp (hr.mono (by decide)) 1 (by show 1 < 13; decide) (evp_var 0) hz (fun a => ?_) sc_law.nd)
  let G : Nat → Gm := fun m => [some (.d (.list (zs.map PyData.int))), some (.s a m), none, none, none, none, none, none, none, none, none, none, none]
  refine ex_cons (e1_drop 2 (e1_for 2 (List.range 3) nt (fun i Γ => i ≤ 3 ∧ ∃ m, m ≤ 700 * i ∧ Γ = G m) (evi_rngN T.range (evn_k 3) (by decide)) ⟨by omega, 0, by omega, rfl⟩ (fun Γ i ⟨_, m, _, e⟩ => by rw [e]; rfl) (fun i t Γ hx ⟨hi3, m, hm, e⟩ => ?_) (fun Γ ⟨_, m, hm, e⟩ => ?_) PassesOwn.never rfl sc_law.nd))
  · subst e
    have hil := (List.getElem?_eq_some_iff.mp hx).1
    rw [List.length_range] at hil
    have hmany : many = 1000000000 := rfl
    refine ex_dropN 2 (ex_drop 2 (ex_dropN 3 (ex_dropN 4 (ex_dropN 5 (ex_dropN 6 (ex_dropN 8 (ex_dropN 9 (ex_dropN 10 ?_))))))))
    refine ex_cons (e1_unL2 (i := 3) (j := 4) (ev_callS Fbk (hr.mono (by decide)) 1 rfl (evae_nil ⟨m, rfl, by omega, rfl, fun d ⟨n, rs, fam, hb, e2⟩ => ⟨_, _, e2, ?_⟩⟩)) rfl (pgs_cons (pg_name (i := 3) sc_law.nd rfl (by first | exact .inl rfl | exact .inr rfl)) (pgs_cons (pg_name (i := 4) sc_law.nd rfl (by first | exact .inl rfl | exact .inr rfl)) pgs_nil)))
    have hg := M n rs fam hb
    have hn := hg.bk.n10
    refine ex_cons (e1_set 5 (ev_p (evp_ixT (evp_var 3) (evn_k 0) rfl) ?_) sc_law.nd)
    let I0 : Gm → Prop := fun Γ => ∃ c qs, c ≤ m + 602 ∧ qs.length ≤ 10 ∧ (∀ q ∈ qs, q < n) ∧ Γ = [some (.d (.list (zs.map PyData.int))), some (.s a c), none, some (.d (bookD n rs)), some (.d (intsD fam)), some (.d (nt n)), some (.d (intsD qs)), none, none, none, none, none, none]
    refine ex_seq I0 (e1_set 6 (ev_if (etn_lt (evp_var 5) (evn_k 6)) (fun h6 => ?_) (fun h6 => ?_)) sc_law.nd) (fun Γ ⟨c, qs, hc, hql, hqs, e⟩ => ?_)
    · refine ev_p (evf_p (evf_listRg (n := n) rfl T.list T.range (evp_var 5) (by omega))) ⟨m + 600, List.range n, by omega, by rw [List.length_range]; omega, fun q hq => List.mem_range.mp hq, rfl⟩
    · have h6' : 6 ≤ n := by
        have := of_decide_eq_false h6
        omega
      refine ev_lst (evae_cons (ev_callS Fdr (hr.mono (by decide)) 1 rfl (evae_p (eva_1 (evp_var 5)) ⟨m + 600, rfl, by omega, ⟨n, by omega, by omega, rfl⟩, fun d ⟨m1, q1, e1, hq1, e2⟩ => evae_cons (ev_callS Fdr (hr.mono (by decide)) 1 rfl (evae_p (eva_1 (evp_var 5)) ⟨m + 600 + 1, rfl, by omega, ⟨n, by omega, by omega, rfl⟩, fun d' ⟨m2, q2, e3, hq2, e4⟩ => evae_nil ⟨(show 2 ≤ sizeLine by decide), ?_⟩⟩))⟩)))
      have hm1 := one_inj e1
      have hm2 := one_inj e3
      subst hm1 e2 e4
      subst hm2
      refine ⟨m + 602, [q1, q2], by omega, by simp, fun q hq => ?_, rfl⟩
      simp only [List.mem_cons, List.not_mem_nil, or_false] at hq
      rcases hq with rfl | rfl
      · exact hq1
      · exact hq2
    subst e
    -- found
    refine ex_cons (e1_if (etn_nonil1 qs (fun _ => !true) (un64 hr) (evf_p (evf_c1 sc_law (lc1 7 qs nt (fun _ => !true) (fun _ => nt 1) (evi_list (evp_var 6)) (by omega)
      (fun _ _ _ _ _ q hq => evc_one (evt_not (evt_val (evp_callG Gfo (hr.mono (by decide)) hgd ⟨n, rs, fam, q, hg.fd q (hqs q hq), rfl, rfl⟩ (eva_cons (evp_var 3) (eva_cons (evp_var 4) (eva_1 (evp_var 7)))))))) (fun _ _ _ _ _ q _ _ => evn_k 1))))) (fun hk => ?_) (fun _ => ex_nil ?_))
    · have : ∀ l : List Nat, (l.all fun _ => !!true) = true := fun l => List.all_eq_true.mpr fun _ _ => rfl
      rw [this] at hk
      cases hk
    -- tops, needs
    refine ex_cons (e1_set 8 (ev_p (evf_p (evf_c1 sc_law (lc1n 7 (List.range n) nt (fun t => lotsD (tops n rs t)) (evi_rngN T.range (evp_var 5) (by omega)) (by rw [List.length_range]; omega) (fun _ _ _ _ _ t _ => evp_call Fgw (hr.mono (by decide)) ⟨n, rs, t, hg.bk, rfl, rfl⟩ (eva_cons (evp_var 3) (eva_1 (evp_var 7))))))) ?_) sc_law.nd)
    refine ex_cons (e1_set 9 (ev_p (evf_p (evf_c1 sc_law (lc1n 7 (List.range n) nt (fun t => dueR t (hit n (rests n rs t))) (evi_rngN T.range (evp_var 5) (by omega)) (by rw [List.length_range]; omega) (fun _ _ _ _ _ t ht => evp_call Frf (hr.mono (by decide)) ⟨n, rs, t, hg.bk, List.mem_range.mp ht, rfl, rfl⟩ (eva_cons (evp_var 3) (eva_1 (evp_var 7))))))) ?_) sc_law.nd)
    have hat : ∀ (g : Nat → PyData) (t : Nat), t < n → atI ((List.range n).map g) ((t : Nat) : Int) = some (g t) := fun g t ht => L2.atI_nat (by rw [List.getElem?_map, List.getElem?_range ht]; rfl)
    refine ex_cons (e1_if (etn_nonil1 (List.range n) (fun _ => !true) (un64 hr) (evf_p (evf_c1 sc_law (lc1 7 (List.range n) nt (fun _ => !true) (fun _ => nt 1) (evi_rngN T.range (evp_var 5) (by omega)) (by rw [List.length_range]; omega)
      (fun _ _ _ _ _ t ht => evc_one (evt_not (evt_val (evp_callG Ghi (hr.mono (by decide)) hgd ⟨n, rs, t, hg.ht t (List.mem_range.mp ht), rfl, rfl⟩ (eva_cons (evp_var 3) (eva_cons (evp_var 7) (eva_cons (evp_ixL (evp_var 8) (evp_var 7) (hat _ t (List.mem_range.mp ht))) (eva_1 (evp_ixL (evp_var 9) (evp_var 7) (hat _ t (List.mem_range.mp ht))))))))))) (fun _ _ _ _ _ q _ _ => evn_k 1))))) (fun hk => ?_) (fun _ => ex_nil ?_))
    · have : ∀ l : List Nat, (l.all fun _ => !!true) = true := fun l => List.all_eq_true.mpr fun _ _ => rfl
      rw [this] at hk
      cases hk
    -- aheads
    refine ex_cons (e1_setC1 sc_law 10 (lc1n 12 (List.range n) (fun t => dueR t (hit n (rests n rs t))) (fun t => .list ((hit n (rests n rs t)).map lotM)) (evi_list (evp_var 9)) (by rw [List.length_range]; omega) (fun _ _ _ _ _ t _ =>
      evf_p (evf_c1 sc_law (lc1n 11 (hit n (rests n rs t)) (fun b => .tuple [lotM b, .tuple [nt t]]) lotM (evi_tup (evp_var 12)) (by have := hitLen hn (rests n rs t); omega) (fun _ _ _ _ _ b _ => evp_ixT (evp_var 11) (evn_k 0) rfl))))) ?_)
    refine ex_cons (e1_ifE (et_or (et_not (et_p (evt_val (evp_callG Gao (hr.mono (by decide)) hgd ⟨n, rs, hg.oc, rfl, rfl⟩ (eva_cons (evp_var 3) (eva_cons (evp_var 8) (eva_1 (evp_var 10)))))) ?_))))
    refine iteF (et_not (et_callSG Gbc (hr.mono (by decide)) hgd 1 rfl (n := c) (by omega) (eva_cons (evp_var 3) (eva_cons (evp_var 8) (eva_1 (evp_var 10)))) ⟨n, rs, hg.cl, rfl⟩ (fun d hd => ⟨true, hd, ?_⟩)))
    refine iteF (ex_nil ?_)
    have hsh := shaped_of (shp_needs n rs) (by decide)
    refine ex_one (e1_if (evt_or (evt_not (evt_val (evp_callG Gke (hr.mono (by decide)) hgd ⟨n, rs, hg.ky, rfl, rfl⟩ (eva_1 (evp_var 3))))) (fun _ => evt_neD (un64 hr) (evf_p (evf_c1 sc_law (lc1n 7 (List.range n) nt (fun t => dueR t (hit n (rests n rs t))) (evi_rngN T.range (evp_var 5) (by omega)) (by rw [List.length_range]; omega) (fun _ _ _ _ _ t ht => evp_call Frf (hr.mono (by decide)) ⟨n, rs, t, hg.bk, List.mem_range.mp ht, rfl, rfl⟩ (eva_cons (evp_var 3) (eva_1 (evp_var 7))))))) (evp_var 9) hsh hsh)) (fun hk => ?_) (fun _ => ex_nil ⟨by omega, c + 50, by omega, rfl⟩))
    rw [SeqAt.eqv_refl _ (shp_needs n rs).1] at hk
    cases hk
  · subst e
    exact ex_one (e1_ret (ev_p evp_bool rfl))
end
end Mt

set_option maxHeartbeats 1000000
namespace Mt
open PySem PySem.Spec PyProof.Rows L2
/-! ### lists without twice -/
theorem nodup_perm : ∀ {l m : List Nat}, l.Nodup → m.Nodup → (∀ x, x ∈ l ↔ x ∈ m) → l.Perm m
  | [], m, _, _, h => by
    cases m with
    | nil => exact .refl _
    | cons x m => exact absurd ((h x).mpr List.mem_cons_self) (by simp)
  | a :: l, m, hl, hm, h => by
    have ha : a ∈ m := (h a).mp List.mem_cons_self
    have p1 : m.Perm (a :: m.erase a) := List.perm_cons_erase ha
    rw [List.nodup_cons] at hl
    refine List.Perm.trans ?_ p1.symm
    refine (nodup_perm hl.2 (hm.erase a) fun x => ?_).cons a
    rw [hm.mem_erase_iff]
    constructor
    · intro hx
      exact ⟨fun z => hl.1 (by rw [← z]; exact hx), (h x).mp (List.mem_cons_of_mem _ hx)⟩
    · rintro ⟨h1, h2⟩
      rcases List.mem_cons.mp ((h x).mpr h2) with z | z
      · exact absurd z h1
      · exact z
/-! ### the order of masks -/
abbrev le1 (a b : Nat) : Bool := PySem.W.dataLe false kdM a b
def lotL (b : Nat) : Nat := (lotOf b).length
theorem nts_I (b : Nat) : (lotOf b).map nt = (lotI b).map PyData.int := by
  unfold lotI
  rw [List.map_map]
  rfl
theorem eqv_ints : ∀ {l m : List Int}, PyData.eqvAll (l.map PyData.int) (m.map PyData.int) = true → l = m
  | [], [], _ => rfl
  | [], _ :: _, h => by simp [PyData.eqvAll] at h
  | _ :: _, [], h => by simp [PyData.eqvAll] at h
  | x :: l, y :: m, h => by
    rw [List.map_cons, List.map_cons, PyData.eqvAll, Bool.and_eq_true] at h
    rw [eqv_ints h.2, show x = y by simpa [PyData.eqv] using h.1]
theorem lt_kd (a b : Nat) : PySem.W.dataLt (kdM a) (kdM b) = decide (lotL a < lotL b ∨ (lotL a = lotL b ∧ lotI a < lotI b)) := by
  unfold kdM kd
  rw [PySem.W.dataLt_pair (by simp [PySem.W.alike]) (by
    rw [PySem.W.alike]
    exact alikeAll_lots _ _), PySem.W.dataLt_int]
  have e2 : PySem.W.dataLt (lotD (lotOf a)) (lotD (lotOf b)) = decide (lotI a < lotI b) := by
    rw [lotD, lotD, PySem.W.dataLt_tuple, nts_I, nts_I]
    exact PySem.W.dataLt_ints _ _
  rw [e2]
  unfold lotL
  by_cases h : (lotOf a).length = (lotOf b).length
  · rw [if_pos (by simp [PyData.eqv, h])]
    by_cases h2 : lotI a < lotI b
    · have : ¬ PyData.eqv (lotD (lotOf a)) (lotD (lotOf b)) = true := fun z => by
        rw [lotD, lotD, PyData.eqv, nts_I, nts_I] at z
        rw [eqv_ints z] at h2
        exact List.lt_irrefl _ h2
      rw [if_neg this]
      simp [h, h2]
    · have e3 : decide (lotI a < lotI b) = false := decide_eq_false h2
      rw [e3]
      simp [h, h2]
  · rw [if_neg (by simpa [PyData.eqv] using fun z => h (by omega))]
    have h1 : decide (((lotOf a).length : Int) < ((lotOf b).length : Int)) = decide ((lotOf a).length < (lotOf b).length) := dec_lt _ _
    rw [h1]
    simp [h]
theorem le_iff {a b : Nat} : le1 a b = true ↔ ¬ (lotL b < lotL a ∨ (lotL b = lotL a ∧ lotI b < lotI a)) := by
  have : le1 a b = !PySem.W.dataLt (kdM b) (kdM a) := rfl
  rw [this, lt_kd, Bool.not_eq_true', decide_eq_false_iff_not]
theorem le_anti {a b : Nat} (ha : a < 1024) (hb : b < 1024) (h1 : le1 a b = true) (h2 : le1 b a = true) : a = b := by
  rw [le_iff] at h1 h2
  have e : lotL a = lotL b := by omega
  have n1 : ¬ lotI b < lotI a := fun z => h1 (.inr ⟨e.symm, z⟩)
  have n2 : ¬ lotI a < lotI b := fun z => h2 (.inr ⟨e, z⟩)
  exact lotI_inj ha hb (List.le_antisymm (List.not_lt.mp n1) (List.not_lt.mp n2))
theorem le_total : PySem.W.TotalLe le1 := PySem.W.sortLe_total _ false _
theorem ord_pw (l : List Nat) : (ord l).Pairwise fun a b => le1 a b = true := PySem.W.sort_pairwise le_total l
/-- what is in order already -/
theorem ord_eq {l m : List Nat} (hl : ∀ x ∈ l, x < 1024) (p : l.Perm m) (hm : m.Pairwise fun a b => le1 a b = true) : ord l = m := by
  refine List.Perm.eq_of_pairwise (le := fun a b => le1 a b = true) (fun a b h1 h2 z1 z2 => ?_) (ord_pw l) hm ((ord_perm l).trans p)
  exact le_anti (hl a (mem_ord.mp h1)) (hl b (p.mem_iff.mpr h2)) z1 z2
theorem ord_set {l m : List Nat} (hl : ∀ x ∈ l, x < 1024) (n1 : l.Nodup) (n2 : m.Nodup) (h : ∀ x, x ∈ l ↔ x ∈ m) (hm : m.Pairwise fun a b => le1 a b = true) : ord l = m := ord_eq hl (nodup_perm n1 n2 h) hm
theorem ord_nodup {l : List Nat} (h : l.Nodup) : (ord l).Nodup := h.perm (ord_perm l).symm
/-! ### parts of masks -/
def Sb (a b : Nat) : Prop := a &&& b = a
theorem sb_iff {a b : Nat} : Sb a b ↔ ∀ i, a.testBit i = true → b.testBit i = true := by
  unfold Sb
  constructor
  · intro h i hi
    rw [← h, Nat.testBit_and, Bool.and_eq_true] at hi
    exact hi.2
  · intro h
    apply Nat.eq_of_testBit_eq
    intro i
    rw [Nat.testBit_and]
    cases e : a.testBit i
    · rfl
    · rw [h i e]
      rfl
theorem sb_refl (a : Nat) : Sb a a := Nat.and_self a
theorem sb_trans {a b c : Nat} (h1 : Sb a b) (h2 : Sb b c) : Sb a c := sb_iff.mpr fun i hi => sb_iff.mp h2 i (sb_iff.mp h1 i hi)
theorem sb_anti {a b : Nat} (h1 : Sb a b) (h2 : Sb b a) : a = b := by
  rw [← h1, Nat.and_comm]
  exact h2
theorem sb_le {a b : Nat} (h : Sb a b) : a ≤ b := by
  rw [← h]
  exact Nat.and_le_right
theorem sb_bit {a b i : Nat} (h : Sb a b) (hi : a.testBit i = true) : b.testBit i = true := sb_iff.mp h i hi
theorem not_sb {a b : Nat} (h : ¬ Sb a b) : ∃ i, a.testBit i = true ∧ b.testBit i = false := by
  apply Classical.byContradiction
  intro z
  refine h (sb_iff.mpr fun i hi => ?_)
  cases e : b.testBit i
  · exact absurd ⟨i, hi, e⟩ z
  · rfl
theorem meet_iff {a b : Nat} : a &&& b ≠ 0 ↔ ∃ i, a.testBit i = true ∧ b.testBit i = true := by
  constructor
  · intro h
    apply Classical.byContradiction
    intro z
    apply h
    apply Nat.eq_of_testBit_eq
    intro i
    rw [Nat.testBit_and, Nat.zero_testBit]
    cases e : a.testBit i
    · rfl
    · cases e2 : b.testBit i
      · rfl
      · exact absurd ⟨i, e, e2⟩ z
  · rintro ⟨i, h1, h2⟩ z
    have := congrArg (fun x => x.testBit i) z
    simp [h1, h2] at this
theorem bit_lt {n a i : Nat} (h : a < 2 ^ n) (hi : a.testBit i = true) : i < n := by
  apply Classical.byContradiction
  intro z
  rw [Nat.testBit_lt_two_pow (Nat.lt_of_lt_of_le h (Nat.pow_le_pow_right (by decide) (by omega)))] at hi
  cases hi
theorem lt_of_bits {n a : Nat} (h : ∀ i, a.testBit i = true → i < n) : a < 2 ^ n := by
  apply Nat.lt_pow_two_of_testBit
  intro i hi
  cases e : a.testBit i
  · rfl
  · exact absurd (h i e) (by omega)
/-- a proper part stands earlier -/
theorem lot_sub {a b : Nat} (hb : b < 1024) (h : Sb a b) (hne : a ≠ b) : lotL a < lotL b := by
  have ha : a < 1024 := Nat.lt_of_le_of_lt (sb_le h) hb
  obtain ⟨i, h1, h2⟩ := not_sb (a := b) (b := a) fun z => hne (sb_anti h z)
  have hi := bit_lt (n := 10) hb h1
  have hs : (i :: lotOf a).length ≤ (lotOf b).length := by
    have hn : (i :: lotOf a).Nodup := by
      rw [List.nodup_cons]
      exact ⟨fun z => (by rw [(mem_lotOf.mp z).2] at h2; cases h2), lotOf_nodup a⟩
    have key : ∀ {l m : List Nat}, l.Nodup → (∀ x ∈ l, x ∈ m) → l.length ≤ m.length := by
      intro l
      induction l with
      | nil => intro m _ _; exact Nat.zero_le _
      | cons x l ih =>
        intro m hn h
        rw [List.nodup_cons] at hn
        have hx := h x List.mem_cons_self
        have := ih (m := m.erase x) hn.2 fun y hy => by
          have hy2 := h y (List.mem_cons_of_mem _ hy)
          exact (List.mem_erase_of_ne fun z => hn.1 (by rw [← z]; exact hy)).mpr hy2
        rw [List.length_erase_of_mem hx] at this
        have : 0 < m.length := List.length_pos_of_mem hx
        rw [List.length_cons]
        omega
    refine key hn fun x hx => ?_
    rcases List.mem_cons.mp hx with rfl | hx
    · exact mem_lotOf.mpr ⟨hi, h1⟩
    · have := mem_lotOf.mp hx
      exact mem_lotOf.mpr ⟨this.1, sb_bit h this.2⟩
  unfold lotL
  rw [List.length_cons] at hs
  omega
theorem not_le_sub {a b : Nat} (hb : b < 1024) (h : Sb a b) (hne : a ≠ b) : ¬ le1 b a = true := fun z => by
  rw [le_iff] at z
  have := lot_sub hb h hne
  exact z (.inl this)
end Mt

set_option maxHeartbeats 1000000
namespace Mt
open PySem PySem.Spec PyProof.Rows L2
/-! ### least ways to meet all -/
def Hits (ls : List Nat) (X : Nat) : Prop := ∀ l ∈ ls, X &&& l ≠ 0
structure MinHit (n : Nat) (ls : List Nat) (X : Nat) : Prop where
  lt : X < 2 ^ n
  ht : Hits ls X
  mn : ∀ Y, Sb Y X → Hits ls Y → Y = X
theorem meet_mono {X Y l : Nat} (h : Sb Y X) (m : Y &&& l ≠ 0) : X &&& l ≠ 0 := by
  rw [meet_iff] at m ⊢
  obtain ⟨i, h1, h2⟩ := m
  exact ⟨i, sb_bit h h1, h2⟩
theorem Hits.mono {ls : List Nat} {X Y : Nat} (h : Hits ls Y) (s : Sb Y X) : Hits ls X := fun l hl => meet_mono s (h l hl)
theorem min_below {n : Nat} {ls : List Nat} : ∀ (X : Nat), X < 2 ^ n → Hits ls X → ∃ Y, Sb Y X ∧ MinHit n ls Y := by
  intro X
  induction X using Nat.strongRecOn with
  | ind X ih =>
    intro hX hh
    by_cases h : ∃ Y, Sb Y X ∧ Hits ls Y ∧ Y ≠ X
    · obtain ⟨Y, h1, h2, h3⟩ := h
      have hlt : Y < X := Nat.lt_of_le_of_ne (sb_le h1) h3
      obtain ⟨Z, z1, z2⟩ := ih Y hlt (Nat.lt_trans hlt hX) h2
      exact ⟨Z, sb_trans z1 h1, z2⟩
    · exact ⟨X, sb_refl X, hX, hh, fun Y h1 h2 => Classical.byContradiction fun h3 => h ⟨Y, h1, h2, h3⟩⟩
theorem hits_congr {ls ms : List Nat} {X : Nat} (h1 : ∀ l ∈ ls, l ∈ ms) (h2 : ∀ m ∈ ms, ∃ l ∈ ls, Sb l m) : Hits ls X ↔ Hits ms X := by
  constructor
  · intro h m hm
    obtain ⟨l, hl, hs⟩ := h2 m hm
    have := h l hl
    rw [Nat.and_comm] at this ⊢
    exact meet_mono hs this
  · intro h l hl
    exact h l (h1 l hl)
theorem mem_once {ns : List Nat} {b : Nat} : b ∈ onceL ns ↔ b ∈ ns := by
  have : ∀ (ns acc : List Nat), b ∈ ns.foldl (fun acc n => if n ∈ acc then acc else acc ++ [n]) acc ↔ b ∈ acc ∨ b ∈ ns := by
    intro ns
    induction ns with
    | nil => intro acc; simp
    | cons n ns ih =>
      intro acc
      rw [List.foldl_cons, ih]
      by_cases h : n ∈ acc
      · rw [if_pos h]
        constructor
        · rintro (z | z)
          · exact .inl z
          · exact .inr (List.mem_cons_of_mem _ z)
        · rintro (z | z)
          · exact .inl z
          · rcases List.mem_cons.mp z with z | z
            · exact .inl (by rw [z]; exact h)
            · exact .inr z
      · rw [if_neg h]
        simp only [List.mem_append, List.mem_cons, List.not_mem_nil, or_false, or_assoc]
  unfold onceL
  rw [this]
  simp
theorem lst_ok (ls : List Nat) : (∀ l ∈ lst ls, l ∈ ls) ∧ ∀ m ∈ ls, ∃ l ∈ lst ls, Sb l m := by
  have key : ∀ (L acc : List Nat), (∀ l ∈ L.foldl (fun found b => if (found.map fun o => decide (o &&& b = o)).any id = true then found else found ++ [b]) acc, l ∈ acc ∨ l ∈ L) ∧
      (∀ l ∈ acc, l ∈ L.foldl (fun found b => if (found.map fun o => decide (o &&& b = o)).any id = true then found else found ++ [b]) acc) ∧
      ∀ m ∈ L, ∃ l ∈ L.foldl (fun found b => if (found.map fun o => decide (o &&& b = o)).any id = true then found else found ++ [b]) acc, Sb l m := by
    intro L
    induction L with
    | nil => intro acc; exact ⟨fun l h => .inl h, fun l h => h, fun m h => nomatch h⟩
    | cons b L ih =>
      intro acc
      rw [List.foldl_cons]
      by_cases h : (acc.map fun o => decide (o &&& b = o)).any id = true
      · rw [if_pos h]
        obtain ⟨h1, h2, h3⟩ := ih acc
        refine ⟨fun l hl => (h1 l hl).imp_right (List.mem_cons_of_mem _), h2, fun m hm => ?_⟩
        rcases List.mem_cons.mp hm with hm | hm
        · rw [List.any_map] at h
          obtain ⟨o, ho, hs⟩ := List.any_eq_true.mp h
          exact ⟨o, h2 o ho, by rw [hm]; exact (of_decide_eq_true hs : o &&& b = o)⟩
        · exact h3 m hm
      · rw [if_neg h]
        obtain ⟨h1, h2, h3⟩ := ih (acc ++ [b])
        refine ⟨fun l hl => ?_, fun l hl => h2 l (List.mem_append_left _ hl), fun m hm => ?_⟩
        · rcases h1 l hl with z | z
          · rcases List.mem_append.mp z with z | z
            · exact .inl z
            · exact .inr (by rw [show l = b by simpa using z]; exact List.mem_cons_self)
          · exact .inr (List.mem_cons_of_mem _ z)
        · rcases List.mem_cons.mp hm with hm | hm
          · exact ⟨b, h2 b (by simp), by rw [hm]; exact sb_refl b⟩
          · exact h3 m hm
  obtain ⟨h1, _, h3⟩ := key (ord (onceL ls)) []
  refine ⟨fun l hl => ?_, fun m hm => h3 m (mem_ord.mpr (mem_once.mpr hm))⟩
  rcases h1 l hl with z | z
  · cases z
  · exact mem_once.mp (mem_ord.mp z)
theorem lst_hits {ls : List Nat} {X : Nat} : Hits (lst ls) X ↔ Hits ls X := hits_congr (lst_ok ls).1 (lst_ok ls).2
theorem hit_fold {n : Nat} (hn : n ≤ 10) (ls : List Nat) : ∀ (Q P found : List Nat), (P ++ Q).Pairwise (fun a b => le1 a b = true) → (P ++ Q).Nodup → (∀ x, x < 2 ^ n → x ∈ P ++ Q) → (∀ x ∈ P ++ Q, x < 2 ^ n) →
    (∀ X, X ∈ found ↔ X ∈ P ∧ MinHit n ls X) → found.Sublist P → (∀ X, X ∈ Q.foldl (hitF (lst ls)) found ↔ X ∈ P ++ Q ∧ MinHit n ls X) ∧ (Q.foldl (hitF (lst ls)) found).Sublist (P ++ Q)
  | [], P, found, _, _, _, _, h, hs => by
    rw [List.append_nil]
    exact ⟨h, hs⟩
  | b :: Q, P, found, hp, hn1, hall, hlt, h, hs => by
    rw [List.foldl_cons]
    have e : P ++ b :: Q = (P ++ [b]) ++ Q := by simp
    have hb : b < 2 ^ n := hlt b (by simp)
    have hb10 : b < 1024 := lt10 hn hb
    have hbP : b ∉ P := fun z => by
      rw [List.nodup_append] at hn1
      exact hn1.2.2 b z b List.mem_cons_self rfl
    have step : (∀ X, X ∈ hitF (lst ls) found b ↔ X ∈ P ++ [b] ∧ MinHit n ls X) ∧ (hitF (lst ls) found b).Sublist (P ++ [b]) := by
      unfold hitF
      by_cases h1 : (found.map fun o => decide (o &&& b = o)).any id = true
      · rw [if_pos h1]
        rw [List.any_map] at h1
        obtain ⟨o, ho, hob⟩ := List.any_eq_true.mp h1
        have hob : o &&& b = o := of_decide_eq_true hob
        have ho2 := (h o).mp ho
        have hne : o ≠ b := fun z => hbP (by rw [← z]; exact ho2.1)
        refine ⟨fun X => ?_, hs.trans (List.sublist_append_left _ _)⟩
        rw [h]
        constructor
        · rintro ⟨z1, z2⟩
          exact ⟨List.mem_append_left _ z1, z2⟩
        · rintro ⟨z1, z2⟩
          rcases List.mem_append.mp z1 with z1 | z1
          · exact ⟨z1, z2⟩
          · rw [show X = b by simpa using z1] at z2
            exact absurd (z2.mn o hob ho2.2.ht) hne
      · rw [if_neg h1]
        have hnone : ∀ o ∈ found, ¬ Sb o b := fun o ho z => h1 (by
          rw [List.any_map]
          exact List.any_eq_true.mpr ⟨o, ho, decide_eq_true (show o &&& b = o from z)⟩)
        by_cases h2 : ((lst ls).map fun o => !decide (b &&& o = 0)).all id = true
        · rw [if_pos h2]
          have hh : Hits ls b := by
            rw [← lst_hits]
            intro l hl
            rw [List.all_map] at h2
            have := List.all_eq_true.mp h2 l hl
            simpa using this
          have hmin : MinHit n ls b := by
            refine ⟨hb, hh, fun Y h3 h4 => ?_⟩
            obtain ⟨Z, z1, z2⟩ := min_below Y (Nat.lt_of_le_of_lt (sb_le h3) hb) h4
            have hZb := sb_trans z1 h3
            by_cases hz : Z = b
            · exact sb_anti h3 (by rw [← hz]; exact z1)
            · have hm := hall Z z2.lt
              rcases List.mem_append.mp hm with hm | hm
              · exact absurd hZb (hnone Z ((h Z).mpr ⟨hm, z2⟩))
              · rcases List.mem_cons.mp hm with hm | hm
                · exact absurd hm hz
                · rw [List.pairwise_append] at hp
                  have := (List.pairwise_cons.mp hp.2.1).1 Z hm
                  exact absurd this (not_le_sub hb10 hZb hz)
          refine ⟨fun X => ?_, hs.append (List.Sublist.refl _)⟩
          rw [List.mem_append, List.mem_append, h]
          constructor
          · rintro (⟨z1, z2⟩ | z)
            · exact ⟨.inl z1, z2⟩
            · exact ⟨.inr z, by rw [show X = b by simpa using z]; exact hmin⟩
          · rintro ⟨z1 | z1, z2⟩
            · exact .inl ⟨z1, z2⟩
            · exact .inr z1
        · rw [if_neg h2]
          refine ⟨fun X => ?_, hs.trans (List.sublist_append_left _ _)⟩
          rw [h]
          constructor
          · rintro ⟨z1, z2⟩
            exact ⟨List.mem_append_left _ z1, z2⟩
          · rintro ⟨z1, z2⟩
            rcases List.mem_append.mp z1 with z1 | z1
            · exact ⟨z1, z2⟩
            · rw [show X = b by simpa using z1] at z2
              refine absurd ?_ h2
              rw [List.all_map]
              refine List.all_eq_true.mpr fun l hl => ?_
              have := lst_hits.mpr z2.ht l hl
              simpa using this
    rw [e] at hp hn1 hall hlt ⊢
    exact hit_fold hn ls Q (P ++ [b]) _ hp hn1 hall hlt step.1 step.2
theorem range_ord_nodup (n : Nat) : (ord (List.range n)).Nodup := ord_nodup List.nodup_range
theorem hit_all {n : Nat} (hn : n ≤ 10) (ls : List Nat) : (∀ X, X ∈ hit n ls ↔ MinHit n ls X) ∧ (hit n ls).Sublist (ord (List.range (2 ^ n))) := by
  have h := hit_fold hn ls (ord (List.range (2 ^ n))) [] [] (ord_pw _) (range_ord_nodup _) (fun x hx => mem_ord.mpr (List.mem_range.mpr hx)) (fun x hx => List.mem_range.mp (mem_ord.mp hx)) (fun X => by simp) (List.Sublist.refl _)
  refine ⟨fun X => ?_, h.2⟩
  show X ∈ (ord (List.range (2 ^ n))).foldl (hitF (lst ls)) [] ↔ _
  rw [h.1 X]
  constructor
  · exact fun z => z.2
  · exact fun z => ⟨mem_ord.mpr (List.mem_range.mpr z.lt), z⟩
theorem mem_hit {n : Nat} (hn : n ≤ 10) {ls : List Nat} {X : Nat} : X ∈ hit n ls ↔ MinHit n ls X := (hit_all hn ls).1 X
theorem hit_pw {n : Nat} (hn : n ≤ 10) (ls : List Nat) : (hit n ls).Pairwise fun a b => le1 a b = true := (ord_pw _).sublist (hit_all hn ls).2
theorem hit_nodup {n : Nat} (hn : n ≤ 10) (ls : List Nat) : (hit n ls).Nodup := (range_ord_nodup _).sublist (hit_all hn ls).2
end Mt

set_option maxHeartbeats 1000000
namespace Mt
open PySem PySem.Spec PyProof.Rows L2
/-! ### Berge's steps -/
theorem or_sb {o t x : Nat} : Sb (o ||| 2 ^ t) x ↔ Sb o x ∧ x.testBit t = true := by
  rw [sb_iff, sb_iff]
  constructor
  · intro h
    exact ⟨fun i hi => h i (by rw [Nat.testBit_or, hi]; rfl), h t (by rw [Nat.testBit_or, Nat.testBit_two_pow_self, Bool.or_true])⟩
  · rintro ⟨h1, h2⟩ i hi
    rw [Nat.testBit_or, Nat.testBit_two_pow, Bool.or_eq_true] at hi
    rcases hi with hi | hi
    · exact h1 i hi
    · rw [← of_decide_eq_true hi]
      exact h2
theorem hits_snoc {ms : List Nat} {m X : Nat} : Hits (ms ++ [m]) X ↔ Hits ms X ∧ X &&& m ≠ 0 := by
  unfold Hits
  constructor
  · intro h
    exact ⟨fun l hl => h l (List.mem_append_left _ hl), h m (by simp)⟩
  · rintro ⟨h1, h2⟩ l hl
    rcases List.mem_append.mp hl with hl | hl
    · exact h1 l hl
    · rw [show l = m by simpa using hl]
      exact h2
theorem step_ok {ms found : List Nat} {m : Nat} (hm : m < 2 ^ 10) (h : ∀ X, X ∈ found ↔ MinHit 10 ms X) (X : Nat) : X ∈ stpB found m ↔ MinHit 10 (ms ++ [m]) X := by
  have hst : ∀ S, S ∈ stays found m ↔ MinHit 10 ms S ∧ S &&& m ≠ 0 := fun S => by
    unfold stays
    rw [List.mem_filter, h]
    simp
  have hre : ∀ S, S ∈ rests0 found m ↔ MinHit 10 ms S ∧ S &&& m = 0 := fun S => by
    unfold rests0
    rw [List.mem_filter, h]
    simp
  have stayMin : ∀ S, S ∈ stays found m → MinHit 10 (ms ++ [m]) S := fun S hS => by
    obtain ⟨h1, h2⟩ := (hst S).mp hS
    exact ⟨h1.lt, hits_snoc.mpr ⟨h1.ht, h2⟩, fun Y y1 y2 => h1.mn Y y1 (hits_snoc.mp y2).1⟩
  have hokB : ∀ Z, okB (stays found m) Z = true ↔ ∀ S ∈ stays found m, ¬ Sb S Z := fun Z => by
    unfold okB
    rw [List.all_eq_true]
    constructor
    · intro z S hS w
      have := z S hS
      rw [decide_eq_true (show S &&& Z = S from w)] at this
      cases this
    · intro z S hS
      rw [decide_eq_false (show ¬ S &&& Z = S from z S hS)]
      rfl
  unfold stpB
  rw [List.mem_append, List.mem_filter, List.mem_flatMap, hokB]
  constructor
  · rintro (hX | ⟨⟨own, ho, hc⟩, hok⟩)
    · exact stayMin X hX
    · obtain ⟨t, ht, hmt, rfl⟩ := mem_cand.mp hc
      obtain ⟨o1, o2⟩ := (hre own).mp ho
      have hz : ∀ i, m.testBit i = true → own.testBit i = false := fun i hi => by
        cases e : own.testBit i
        · rfl
        · exact absurd o2 (meet_iff.mpr ⟨i, e, hi⟩)
      have hlt : own ||| 2 ^ t < 2 ^ 10 := or_one_lt o1.lt ht
      have hht : Hits (ms ++ [m]) (own ||| 2 ^ t) := by
        rw [hits_snoc]
        refine ⟨o1.ht.mono (sb_iff.mpr fun i hi => by rw [Nat.testBit_or, hi]; rfl), meet_iff.mpr ⟨t, ?_, hmt⟩⟩
        rw [Nat.testBit_or, Nat.testBit_two_pow_self, Bool.or_true]
      refine ⟨hlt, hht, fun Y y1 y2 => ?_⟩
      obtain ⟨y3, y4⟩ := hits_snoc.mp y2
      obtain ⟨W, w1, w2⟩ := min_below Y (Nat.lt_of_le_of_lt (sb_le y1) hlt) y3
      have hWZ := sb_trans w1 y1
      have hWm : ¬ W &&& m ≠ 0 := fun z => hok W ((hst W).mpr ⟨w2, z⟩) hWZ
      have hWt : W.testBit t = false := by
        cases e : W.testBit t
        · rfl
        · exact absurd (meet_iff.mpr ⟨t, e, hmt⟩) hWm
      have hWo : Sb W own := sb_iff.mpr fun i hi => by
        have := sb_bit hWZ hi
        rw [Nat.testBit_or, Nat.testBit_two_pow, Bool.or_eq_true] at this
        rcases this with z | z
        · exact z
        · rw [← of_decide_eq_true z, hWt] at hi
          cases hi
      have hWe : W = own := o1.mn W hWo w2.ht
      have hYt : Y.testBit t = true := by
        obtain ⟨i, i1, i2⟩ := meet_iff.mp y4
        have := sb_bit y1 i1
        rw [Nat.testBit_or, Nat.testBit_two_pow, hz i i2, Bool.false_or] at this
        rw [of_decide_eq_true this]
        exact i1
      exact sb_anti y1 (or_sb.mpr ⟨by rw [← hWe]; exact w1, hYt⟩)
  · intro hX
    obtain ⟨x1, x2⟩ := hits_snoc.mp hX.ht
    obtain ⟨Y, y1, y2⟩ := min_below X hX.lt x1
    by_cases hY : Y &&& m = 0
    · obtain ⟨t, t1, t2⟩ := meet_iff.mp x2
      have ht10 := bit_lt hX.lt t1
      have hsub : Sb (Y ||| 2 ^ t) X := or_sb.mpr ⟨y1, t1⟩
      have hht : Hits (ms ++ [m]) (Y ||| 2 ^ t) := by
        rw [hits_snoc]
        refine ⟨y2.ht.mono (sb_iff.mpr fun i hi => by rw [Nat.testBit_or, hi]; rfl), meet_iff.mpr ⟨t, ?_, t2⟩⟩
        rw [Nat.testBit_or, Nat.testBit_two_pow_self, Bool.or_true]
      have e := hX.mn _ hsub hht
      by_cases hs : ∃ S ∈ stays found m, Sb S X
      · obtain ⟨S, s1, s2⟩ := hs
        have := hX.mn S s2 (stayMin S s1).ht
        exact .inl (by rw [← this]; exact s1)
      · refine .inr ⟨⟨Y, (hre Y).mpr ⟨y2, hY⟩, mem_cand.mpr ⟨t, ht10, t2, e.symm⟩⟩, fun S hS hSX => hs ⟨S, hS, hSX⟩⟩
    · have e := hX.mn Y y1 (hits_snoc.mpr ⟨y2.ht, hY⟩)
      exact .inl ((hst X).mpr ⟨by rw [← e]; exact y2, by rw [← e]; exact hY⟩)
theorem steps_ok (ms : List Nat) (h : ∀ m ∈ ms, m < 2 ^ 10) (X : Nat) : X ∈ stpsB ms ↔ MinHit 10 ms X := by
  have key : ∀ (ms done found : List Nat), (∀ m ∈ ms, m < 2 ^ 10) → (∀ X, X ∈ found ↔ MinHit 10 done X) → ∀ X, X ∈ ms.foldl stpB found ↔ MinHit 10 (done ++ ms) X := by
    intro ms
    induction ms with
    | nil => intro done found _ hf X; rw [List.append_nil]; exact hf X
    | cons m ms ih =>
      intro done found hm hf X
      rw [List.foldl_cons, show done ++ m :: ms = (done ++ [m]) ++ ms by simp]
      exact ih (done ++ [m]) _ (fun x hx => hm x (List.mem_cons_of_mem _ hx)) (fun X => step_ok (hm m List.mem_cons_self) hf X) X
  have h0 : ∀ X, X ∈ [0] ↔ MinHit 10 [] X := fun X => by
    constructor
    · intro z
      obtain rfl : X = 0 := by simpa using z
      exact ⟨by decide, (fun l hl => nomatch hl), fun Y y1 _ => by
        have := sb_le y1
        omega⟩
    · intro z
      have := z.mn 0 (by unfold Sb; simp) fun l hl => nomatch hl
      rw [← this]
      simp
  have := key ms [] [0] h h0 X
  rw [List.nil_append] at this
  exact this
theorem min10 {n : Nat} (hn : n ≤ 10) {ls : List Nat} (h : ∀ l ∈ ls, l < 2 ^ n) {X : Nat} : MinHit 10 ls X ↔ MinHit n ls X := by
  constructor
  · intro z
    have hs : Sb (X &&& (2 ^ n - 1)) X := sb_iff.mpr fun i hi => by
      rw [Nat.testBit_and, Bool.and_eq_true] at hi
      exact hi.1
    have e := z.mn _ hs fun l hl => by
      obtain ⟨i, i1, i2⟩ := meet_iff.mp (z.ht l hl)
      refine meet_iff.mpr ⟨i, ?_, i2⟩
      rw [Nat.testBit_and, i1, whole_bit, decide_eq_true (bit_lt (h l hl) i2)]
      rfl
    refine ⟨?_, z.ht, z.mn⟩
    rw [← e]
    exact Nat.lt_of_le_of_lt Nat.and_le_right (by have := Nat.two_pow_pos n; omega)
  · intro z
    exact ⟨lt10 hn z.lt, z.ht, z.mn⟩
/-- least ways to meet all the least ways -/
theorem tr_tr {n : Nat} {A T : List Nat} (ha : ∀ a ∈ A, a < 2 ^ n) (hanti : ∀ a ∈ A, ∀ b ∈ A, Sb a b → a = b) (hT : ∀ X, X ∈ T ↔ MinHit n A X) (X : Nat) : MinHit n T X ↔ X ∈ A := by
  have comp : ∀ Y, Hits T Y → ∃ a ∈ A, Sb a Y := fun Y hY => by
    apply Classical.byContradiction
    intro z
    have hc : Hits A (sd (2 ^ n - 1) Y) := fun a haA => by
      obtain ⟨i, i1, i2⟩ := not_sb fun w => z ⟨a, haA, w⟩
      exact meet_iff.mpr ⟨i, by rw [sd_bit, whole_bit, decide_eq_true (bit_lt (ha a haA) i1), i2]; rfl, i1⟩
    obtain ⟨W, w1, w2⟩ := min_below _ (Nat.lt_of_le_of_lt (sd_le _ _) (by have := Nat.two_pow_pos n; omega : 2 ^ n - 1 < 2 ^ n)) hc
    obtain ⟨i, i1, i2⟩ := meet_iff.mp (hY W ((hT W).mpr w2))
    have := sb_bit w1 i2
    rw [sd_bit, i1] at this
    simp at this
  have self : ∀ a ∈ A, Hits T a := fun a haA W hW => by
    have := ((hT W).mp hW).ht a haA
    rw [Nat.and_comm]
    exact this
  constructor
  · intro h
    obtain ⟨a, a1, a2⟩ := comp X h.ht
    rw [← h.mn a a2 (self a a1)]
    exact a1
  · intro h
    refine ⟨ha X h, self X h, fun Y y1 y2 => ?_⟩
    obtain ⟨a, a1, a2⟩ := comp Y y2
    have := hanti a a1 X h (sb_trans a2 y1)
    rw [this] at a2
    exact sb_anti y1 a2
end Mt

set_option maxHeartbeats 1000000
namespace Mt
open PySem PySem.Spec PyProof.Rows L2
/-! ### closures -/
theorem kept_iff {rs : List Ru} {b : Nat} : kept rs b = true ↔ ∀ r ∈ rs, Sb r.1 b → Sb r.2 b := by
  unfold kept
  rw [List.all_eq_true]
  have e : ∀ r : Ru, (!(decide (b &&& r.1 = r.1) && !decide (b &&& r.2 = r.2))) = true ↔ (Sb r.1 b → Sb r.2 b) := fun r => by
    unfold Sb
    rw [Nat.and_comm r.1, Nat.and_comm r.2]
    by_cases h1 : b &&& r.1 = r.1 <;> by_cases h2 : b &&& r.2 = r.2 <;> simp [h1, h2]
  exact ⟨fun h r hr => (e r).mp (h r hr), fun h r hr => (e r).mpr (h r hr)⟩
theorem rnd_bit (rs : List Ru) (b i : Nat) : (rnd rs b).testBit i = true ↔ b.testBit i = true ∨ ∃ r ∈ rs, Sb r.1 b ∧ r.2.testBit i = true := by
  have : ∀ (l : List Ru) (f : Nat), (l.foldl (fun f r => if b &&& r.1 = r.1 then f ||| r.2 else f) f).testBit i = true ↔ f.testBit i = true ∨ ∃ r ∈ l, Sb r.1 b ∧ r.2.testBit i = true := by
    intro l
    induction l with
    | nil => intro f; simp
    | cons r l ih =>
      intro f
      rw [List.foldl_cons, ih]
      by_cases h : b &&& r.1 = r.1
      · have hs : Sb r.1 b := by unfold Sb; rw [Nat.and_comm]; exact h
        rw [if_pos h, Nat.testBit_or, Bool.or_eq_true]
        constructor
        · rintro ((z | z) | ⟨r', z1, z2⟩)
          · exact .inl z
          · exact .inr ⟨r, List.mem_cons_self, hs, z⟩
          · exact .inr ⟨r', List.mem_cons_of_mem _ z1, z2⟩
        · rintro (z | ⟨r', z1, z2, z3⟩)
          · exact .inl (.inl z)
          · rcases List.mem_cons.mp z1 with z1 | z1
            · exact .inl (.inr (by rw [← z1]; exact z3))
            · exact .inr ⟨r', z1, z2, z3⟩
      · have hs : ¬ Sb r.1 b := fun z => h (by rw [Nat.and_comm]; exact z)
        rw [if_neg h]
        constructor
        · rintro (z | ⟨r', z1, z2⟩)
          · exact .inl z
          · exact .inr ⟨r', List.mem_cons_of_mem _ z1, z2⟩
        · rintro (z | ⟨r', z1, z2, z3⟩)
          · exact .inl z
          · rcases List.mem_cons.mp z1 with z1 | z1
            · rw [z1] at z2
              exact absurd z2 hs
            · exact .inr ⟨r', z1, z2, z3⟩
  exact this rs b
theorem rnd_sup (rs : List Ru) (b : Nat) : Sb b (rnd rs b) := sb_iff.mpr fun i hi => (rnd_bit rs b i).mpr (.inl hi)
theorem rnd_min {rs : List Ru} {b c : Nat} (h : Sb b c) (hk : kept rs c = true) : Sb (rnd rs b) c := sb_iff.mpr fun i hi => by
  rcases (rnd_bit rs b i).mp hi with z | ⟨r, z1, z2, z3⟩
  · exact sb_bit h z
  · exact sb_bit (kept_iff.mp hk r z1 (sb_trans z2 h)) z3
theorem fix_kept {rs : List Ru} {c : Nat} (h : rnd rs c = c) : kept rs c = true := kept_iff.mpr fun r hr hs => sb_iff.mpr fun i hi => by
  rw [← h]
  exact (rnd_bit rs c i).mpr (.inr ⟨r, hr, hs, hi⟩)
theorem itr_sup (rs : List Ru) (b : Nat) : ∀ k, Sb b (itr rs k b)
  | 0 => sb_refl b
  | k + 1 => sb_trans (itr_sup rs b k) (rnd_sup rs _)
theorem itr_min {rs : List Ru} {b c : Nat} (h : Sb b c) (hk : kept rs c = true) : ∀ k, Sb (itr rs k b) c
  | 0 => h
  | k + 1 => rnd_min (itr_min h hk k) hk
theorem itr_grow (rs : List Ru) (b : Nat) : ∀ k, (∃ j, j < k ∧ rnd rs (itr rs j b) = itr rs j b) ∨ k ≤ itr rs k b
  | 0 => .inr (Nat.zero_le _)
  | k + 1 => by
    rcases itr_grow rs b k with ⟨j, j1, j2⟩ | h
    · exact .inl ⟨j, by omega, j2⟩
    · by_cases e : rnd rs (itr rs k b) = itr rs k b
      · exact .inl ⟨k, by omega, e⟩
      · have h1 := sb_le (rnd_sup rs (itr rs k b))
        have h2 : itr rs (k + 1) b = rnd rs (itr rs k b) := rfl
        rw [h2]
        exact .inr (by omega)
section
variable {n : Nat} {rs : List Ru}
theorem clo_sup (rs : List Ru) (b : Nat) : Sb b (clo rs b) := itr_sup rs b 1024
theorem clo_min {b c : Nat} (h : Sb b c) (hk : kept rs c = true) : Sb (clo rs b) c := itr_min h hk 1024
theorem clo_kept (h : Bk n rs) {b : Nat} (hb : b < 2 ^ n) : kept rs (clo rs b) = true := by
  refine fix_kept ?_
  rcases itr_grow rs b 1024 with ⟨j, j1, j2⟩ | z
  · have := itr_fix j2 (1024 - j)
    rw [show j + (1024 - j) = 1024 by omega] at this
    show rnd rs (itr rs 1024 b) = itr rs 1024 b
    rw [this]
    exact j2
  · have := clo_lt h.lt hb
    have := pow10 h.n10
    have e : clo rs b = itr rs 1024 b := rfl
    omega
theorem clo_closed (h : Bk n rs) {b : Nat} (hb : b < 2 ^ n) : clo rs b ∈ closed n rs := mem_closed.mpr ⟨clo_lt h.lt hb, clo_kept h hb⟩
theorem clo_mono (h : Bk n rs) {a b : Nat} (hb : b < 2 ^ n) (s : Sb a b) : Sb (clo rs a) (clo rs b) := clo_min (sb_trans s (clo_sup rs b)) (clo_kept h hb)
theorem clo_of_closed {c : Nat} (h : c ∈ closed n rs) : clo rs c = c := sb_anti (clo_min (sb_refl c) (mem_closed.mp h).2) (clo_sup rs c)
theorem sb_lt {a b : Nat} (h : Sb a b) (hb : b < 2 ^ n) : a < 2 ^ n := Nat.lt_of_le_of_lt (sb_le h) hb
/-! ### tops -/
theorem mem_gre {ls : List Nat} {b : Nat} : b ∈ gre ls ↔ b ∈ ls ∧ ∀ o ∈ ls, Sb b o → o = b := by
  unfold gre
  rw [List.mem_filter]
  have e : (!(ls.map fun o => !decide (o = b) && decide (o &&& b = b)).any id) = true ↔ ∀ o ∈ ls, Sb b o → o = b := by
    rw [List.any_map, Bool.not_eq_true', ← Bool.not_eq_true, List.any_eq_true]
    constructor
    · intro h o ho hs
      apply Classical.byContradiction
      intro z
      refine h ⟨o, ho, ?_⟩
      have : o &&& b = b := by rw [Nat.and_comm]; exact hs
      simp [z, this]
    · rintro h ⟨o, ho, z⟩
      simp at z
      exact z.1 (h o ho (by unfold Sb; rw [Nat.and_comm]; exact z.2))
  rw [e]
theorem mem_tops {t c : Nat} : c ∈ tops n rs t ↔ (c ∈ closed n rs ∧ c.testBit t = false) ∧ ∀ o ∈ closed n rs, o.testBit t = false → Sb c o → o = c := by
  unfold tops
  rw [mem_gre, List.mem_filter]
  constructor
  · rintro ⟨⟨h1, h2⟩, h3⟩
    exact ⟨⟨h1, by simpa using h2⟩, fun o ho hz hs => h3 o (List.mem_filter.mpr ⟨ho, by simp [hz]⟩) hs⟩
  · rintro ⟨⟨h1, h2⟩, h3⟩
    refine ⟨⟨h1, by simp [h2]⟩, fun o ho hs => ?_⟩
    have := List.mem_filter.mp ho
    exact h3 o this.1 (by simpa using this.2) hs
theorem top_above {t : Nat} : ∀ (k c : Nat), 2 ^ n - c ≤ k → c ∈ closed n rs → c.testBit t = false → ∃ o ∈ tops n rs t, Sb c o
  | 0, c, hk, hc, _ => by
    have := (mem_closed.mp hc).1
    omega
  | k + 1, c, hk, hc, ht => by
    by_cases h : ∃ o ∈ closed n rs, o.testBit t = false ∧ Sb c o ∧ o ≠ c
    · obtain ⟨o, o1, o2, o3, o4⟩ := h
      have hlt : c < o := Nat.lt_of_le_of_ne (sb_le o3) (Ne.symm o4)
      have := (mem_closed.mp o1).1
      obtain ⟨p, p1, p2⟩ := top_above k o (by omega) o1 o2
      exact ⟨p, p1, sb_trans o3 p2⟩
    · refine ⟨c, mem_tops.mpr ⟨⟨hc, ht⟩, fun o o1 o2 o3 => ?_⟩, sb_refl c⟩
      apply Classical.byContradiction
      intro z
      exact h ⟨o, o1, o2, o3, z⟩
/-! ### least makers of a thing -/
structure Mk (n : Nat) (rs : List Ru) (t A : Nat) : Prop where
  lt : A < 2 ^ n
  nt : A.testBit t = false
  tc : (clo rs A).testBit t = true
  mn : ∀ Y, Sb Y A → (clo rs Y).testBit t = true → Y = A
theorem rest_bit {t b i : Nat} : (sd (sd (2 ^ n - 1) (2 ^ t)) b).testBit i = true ↔ i < n ∧ i ≠ t ∧ b.testBit i = false := by
  rw [sd_bit, sd_bit, whole_bit, Nat.testBit_two_pow]
  have : (t = i) ↔ (i = t) := eq_comm
  simp [this]
  constructor
  · rintro ⟨⟨h1, h2⟩, h3⟩
    exact ⟨h1, h2, h3⟩
  · rintro ⟨h1, h2, h3⟩
    exact ⟨⟨h1, h2⟩, h3⟩
theorem hits_rests (h : Bk n rs) {t A : Nat} (ht : t < n) (hA : A < 2 ^ n) (hn : A.testBit t = false) : Hits (rests n rs t) A ↔ (clo rs A).testBit t = true := by
  constructor
  · intro hh
    cases e : (clo rs A).testBit t
    · obtain ⟨o, o1, o2⟩ := top_above (n := n) (rs := rs) _ _ (Nat.le_refl _) (clo_closed h hA) e
      obtain ⟨i, i1, i2⟩ := meet_iff.mp (hh _ (List.mem_map.mpr ⟨o, o1, rfl⟩))
      have := (rest_bit.mp i2).2.2
      rw [sb_bit (sb_trans (clo_sup rs A) o2) i1] at this
      cases this
    · rfl
  · intro hc l hl
    obtain ⟨o, o1, rfl⟩ := List.mem_map.mp hl
    have ho := mem_tops.mp o1
    apply Classical.byContradiction
    intro z
    have hs : Sb A o := sb_iff.mpr fun i hi => by
      cases e : o.testBit i
      · refine absurd (meet_iff.mpr ⟨i, hi, rest_bit.mpr ⟨bit_lt hA hi, fun w => ?_, e⟩⟩) z
        rw [w, hn] at hi
        cases hi
      · rfl
    have := sb_bit (clo_min hs (mem_closed.mp ho.1.1).2) hc
    rw [ho.1.2] at this
    cases this
theorem hits_drop {t A : Nat} : Hits (rests n rs t) A → Hits (rests n rs t) (sd A (2 ^ t)) := fun h l hl => by
  obtain ⟨i, i1, i2⟩ := meet_iff.mp (h l hl)
  obtain ⟨o, _, rfl⟩ := List.mem_map.mp hl
  have := rest_bit.mp i2
  refine meet_iff.mpr ⟨i, ?_, i2⟩
  rw [sd_bit, i1, Nat.testBit_two_pow, decide_eq_false (Ne.symm this.2.1)]
  rfl
theorem sd_sb (a b : Nat) : Sb (sd a b) a := sb_iff.mpr fun i hi => by
  rw [sd_bit, Bool.and_eq_true] at hi
  exact hi.1
theorem mem_rule (h : Bk n rs) {t A : Nat} (ht : t < n) : A ∈ hit n (rests n rs t) ↔ Mk n rs t A := by
  rw [mem_hit h.n10]
  constructor
  · intro m
    have hn : A.testBit t = false := by
      have := m.mn _ (sd_sb A (2 ^ t)) (hits_drop m.ht)
      rw [← this, sd_bit, Nat.testBit_two_pow_self]
      simp
    refine ⟨m.lt, hn, (hits_rests h ht m.lt hn).mp m.ht, fun Y y1 y2 => m.mn Y y1 ?_⟩
    refine (hits_rests h ht (sb_lt y1 m.lt) ?_).mpr y2
    cases e : Y.testBit t
    · rfl
    · rw [sb_bit y1 e] at hn
      cases hn
  · intro m
    refine ⟨m.lt, (hits_rests h ht m.lt m.nt).mpr m.tc, fun Y y1 y2 => m.mn Y y1 ?_⟩
    refine (hits_rests h ht (sb_lt y1 m.lt) ?_).mp y2
    cases e : Y.testBit t
    · rfl
    · have := m.nt
      rw [sb_bit y1 e] at this
      cases this
theorem mk_below (h : Bk n rs) {t q : Nat} (hq : q < 2 ^ n) (h1 : (clo rs q).testBit t = true) (h2 : q.testBit t = false) : ∃ A, Sb A q ∧ Mk n rs t A := by
  have ht : t < n := bit_lt (clo_lt h.lt hq) h1
  obtain ⟨A, a1, a2⟩ := min_below q hq ((hits_rests h ht hq h2).mpr h1)
  exact ⟨A, a1, (mem_rule h ht).mp ((mem_hit h.n10).mpr a2)⟩
end
end Mt

set_option maxHeartbeats 1000000
namespace Mt
open PySem PySem.Spec PyProof.Rows L2
section
variable {n : Nat} {rs : List Ru}
theorem closed_nodup : (closed n rs).Nodup := ord_nodup (List.Pairwise.filter _ List.nodup_range)
theorem tops_nodup {t : Nat} : (tops n rs t).Nodup := List.Pairwise.filter _ (List.Pairwise.filter _ closed_nodup)
theorem tops_lt' {t c : Nat} (h : c ∈ tops n rs t) : c < 2 ^ n := (mem_closed.mp (mem_tops.mp h).1.1).1
/-- a rest within a rest: the tops the other way round -/
theorem rest_sub {t c d : Nat} (hc : c ∈ tops n rs t) (hd : d ∈ tops n rs t) (h : Sb (sd (sd (2 ^ n - 1) (2 ^ t)) c) (sd (sd (2 ^ n - 1) (2 ^ t)) d)) : c = d := by
  have hs : Sb d c := sb_iff.mpr fun i hi => by
    cases e : c.testBit i
    · have ht : i ≠ t := fun z => by
        rw [z, (mem_tops.mp hd).1.2] at hi
        cases hi
      have := sb_bit h (rest_bit.mpr ⟨bit_lt (tops_lt' hd) hi, ht, e⟩)
      rw [(rest_bit.mp this).2.2] at hi
      cases hi
    · rfl
  exact (mem_tops.mp hd).2 c (mem_tops.mp hc).1.1 (mem_tops.mp hc).1.2 hs
theorem rests_lt {t l : Nat} (h : l ∈ rests n rs t) : l < 2 ^ n := by
  obtain ⟨c, _, rfl⟩ := List.mem_map.mp h
  exact Nat.lt_of_le_of_lt (sb_le (sd_sb _ _)) (Nat.lt_of_le_of_lt (sb_le (sd_sb _ _)) (whole_lt n))
theorem rests_nodup {t : Nat} : (rests n rs t).Nodup := by
  unfold rests
  rw [List.Nodup, List.pairwise_map]
  refine List.Pairwise.imp_of_mem (fun {a b} ha hb hne e => hne ?_) (tops_nodup (n := n) (rs := rs) (t := t))
  exact rest_sub ha hb (by rw [e]; exact sb_refl _)
theorem hit_good (h : Bk n rs) {t : Nat} (ht : t < n) : Hit n rs t := by
  refine ⟨h, ht, ?_⟩
  have hn := h.n10
  symm
  refine ord_set (fun x hx => Nat.lt_of_lt_of_le (rests_lt hx) (pow10 hn)) rests_nodup (hit_nodup hn _) (fun x => ?_) (hit_pw hn _)
  rw [mem_hit hn, tr_tr (A := rests n rs t) (fun a ha => rests_lt ha) (fun a ha b hb hs => ?_) (fun X => mem_hit hn)]
  obtain ⟨c, hc, rfl⟩ := List.mem_map.mp ha
  obtain ⟨d, hd, rfl⟩ := List.mem_map.mp hb
  rw [rest_sub hc hd hs]
/-! ### by rules, by tops -/
theorem fold_or {p : Nat → Bool} {i : Nat} : ∀ (l : List Nat) (q : Nat), (l.foldl (fun acc t => if p t = true then acc ||| 2 ^ t else acc) q).testBit i = true ↔ q.testBit i = true ∨ (i ∈ l ∧ p i = true)
  | [], q => by simp
  | t :: l, q => by
    rw [List.foldl_cons, fold_or l]
    by_cases h : p t = true
    · rw [if_pos h, Nat.testBit_or, Nat.testBit_two_pow, Bool.or_eq_true]
      constructor
      · rintro ((z | z) | ⟨z1, z2⟩)
        · exact .inl z
        · rw [← of_decide_eq_true z]
          exact .inr ⟨List.mem_cons_self, h⟩
        · exact .inr ⟨List.mem_cons_of_mem _ z1, z2⟩
      · rintro (z | ⟨z1, z2⟩)
        · exact .inl (.inl z)
        · rcases List.mem_cons.mp z1 with z1 | z1
          · exact .inl (.inr (by rw [z1]; simp))
          · exact .inr ⟨z1, z2⟩
    · rw [if_neg h]
      constructor
      · rintro (z | ⟨z1, z2⟩)
        · exact .inl z
        · exact .inr ⟨List.mem_cons_of_mem _ z1, z2⟩
      · rintro (z | ⟨z1, z2⟩)
        · exact .inl z
        · rcases List.mem_cons.mp z1 with z1 | z1
          · rw [z1] at z2
            exact absurd z2 h
          · exact .inr ⟨z1, z2⟩
theorem fold_and {i : Nat} : ∀ (l : List Nat) (w : Nat), (l.foldl (fun a c => a &&& c) w).testBit i = true ↔ w.testBit i = true ∧ ∀ c ∈ l, c.testBit i = true
  | [], w => by simp
  | c :: l, w => by
    rw [List.foldl_cons, fold_and l, Nat.testBit_and, Bool.and_eq_true]
    simp only [List.mem_cons, forall_eq_or_imp, and_assoc]
theorem fold_and2 {f : Nat → List Nat} {i : Nat} : ∀ (l : List Nat) (w : Nat), (l.foldl (fun acc t => (f t).foldl (fun a c => a &&& c) acc) w).testBit i = true ↔ w.testBit i = true ∧ ∀ t ∈ l, ∀ c ∈ f t, c.testBit i = true
  | [], w => by simp
  | t :: l, w => by
    rw [List.foldl_cons, fold_and2 l, fold_and]
    simp only [List.mem_cons, forall_eq_or_imp, and_assoc]
theorem eq_of_bits {a b : Nat} (h : ∀ i, a.testBit i = true ↔ b.testBit i = true) : a = b := Nat.eq_of_testBit_eq fun i => by
  cases e : a.testBit i
  · cases e2 : b.testBit i
    · rfl
    · rw [(h i).mpr e2] at e
      cases e
  · rw [(h i).mp e]
/-- a thing is in the closure where a least maker lies within -/
theorem clo_bit (h : Bk n rs) {q i : Nat} (hq : q < 2 ^ n) : (clo rs q).testBit i = true ↔ q.testBit i = true ∨ (i < n ∧ ∃ A, Mk n rs i A ∧ Sb A q) := by
  constructor
  · intro hi
    cases e : q.testBit i
    · obtain ⟨A, a1, a2⟩ := mk_below h hq hi e
      exact .inr ⟨bit_lt (clo_lt h.lt hq) hi, A, a2, a1⟩
    · exact .inl rfl
  · rintro (z | ⟨_, A, a1, a2⟩)
    · exact sb_bit (clo_sup rs q) z
    · exact sb_bit (clo_mono h hq a2) a1.tc
theorem byR_good (h : Bk n rs) {q : Nat} (hq : q < 2 ^ n) : byR n rs q = clo rs q := by
  refine eq_of_bits fun i => ?_
  unfold byR
  rw [fold_or, clo_bit h hq]
  have e : i < n → ((!(hit n (rests n rs i)).all fun o => !decide (o &&& q = o)) = true ↔ ∃ A, Mk n rs i A ∧ Sb A q) := fun hi => by
    rw [Bool.not_eq_true', ← Bool.not_eq_true, List.all_eq_true]
    constructor
    · intro z
      apply Classical.byContradiction
      intro w
      refine z fun A hA => ?_
      have : ¬ A &&& q = A := fun y => w ⟨A, (mem_rule h hi).mp hA, y⟩
      simp [this]
    · rintro ⟨A, a1, a2⟩ z
      have := z A ((mem_rule h hi).mpr a1)
      rw [decide_eq_true (show A &&& q = A from a2)] at this
      cases this
  constructor
  · rintro (z | ⟨z1, z2⟩)
    · exact .inl z
    · have hi := List.mem_range.mp z1
      exact .inr ⟨hi, (e hi).mp z2⟩
  · rintro (z | ⟨z1, z2⟩)
    · exact .inl z
    · exact .inr ⟨List.mem_range.mpr z1, (e z1).mpr z2⟩
theorem byT_good (h : Bk n rs) {q : Nat} (hq : q < 2 ^ n) : byT n rs q = clo rs q := by
  refine eq_of_bits fun i => ?_
  unfold byT
  rw [fold_and2, whole_bit]
  constructor
  · rintro ⟨h1, h2⟩
    have hi := of_decide_eq_true h1
    cases e : (clo rs q).testBit i
    · obtain ⟨o, o1, o2⟩ := top_above (n := n) (rs := rs) _ _ (Nat.le_refl _) (clo_closed h hq) e
      have := h2 i (List.mem_range.mpr hi) o (List.mem_filter.mpr ⟨o1, decide_eq_true (by rw [Nat.and_comm]; exact sb_trans (clo_sup rs q) o2)⟩)
      rw [(mem_tops.mp o1).1.2] at this
      cases this
    · rfl
  · intro hi
    refine ⟨decide_eq_true (bit_lt (clo_lt h.lt hq) hi), fun t ht c hc => ?_⟩
    obtain ⟨c1, c2⟩ := List.mem_filter.mp hc
    have hs : Sb q c := by
      have := of_decide_eq_true c2
      unfold Sb
      rw [Nat.and_comm]
      exact this
    exact sb_bit (clo_min hs (mem_closed.mp (mem_tops.mp c1).1.1).2) hi
theorem clos_good (h : Bk n rs) : Clos n rs := ⟨h, fun q hq => byR_good h hq, fun q hq => byT_good h hq⟩
end
end Mt

set_option maxHeartbeats 1000000
namespace Mt
open PySem PySem.Spec PyProof.Rows L2
/-! ### groups -/
theorem getG_add (t : Nat) (gs : Grp) (b c : Nat) : getG (addG t gs b) c = if c = b then getG gs b ++ [t] else getG gs c := by
  unfold addG
  by_cases q : (gs.any fun g => decide (g.1 = b)) = true
  · rw [if_pos q]
    have : ∀ (l : Grp) (v : List Nat), (∃ g ∈ l, g.1 = b) ∨ c ≠ b → ((l.map fun g => if g.1 = b then (g.1, v) else g).find? fun g => decide (g.1 = c)).map (·.2) = if c = b then some v else (l.find? fun g => decide (g.1 = c)).map (·.2) := by
      intro l v
      induction l with
      | nil =>
        rintro (⟨g, hg, _⟩ | h)
        · cases hg
        · rw [if_neg h]
          rfl
      | cons g l ih =>
        intro h
        rw [List.map_cons, List.find?_cons, List.find?_cons]
        by_cases e : g.1 = b
        · rw [if_pos e]
          by_cases e2 : c = b
          · subst e2
            simp [e]
          · have : ¬ g.1 = c := fun z => e2 (by rw [← z, e])
            simp only [this, decide_false]
            exact ih (.inr e2)
        · rw [if_neg e]
          by_cases e2 : g.1 = c
          · have : ¬ c = b := fun z => e (by rw [e2, z])
            simp [e2, this]
          · simp only [e2, decide_false]
            refine ih ?_
            rcases h with ⟨g', h1, h2⟩ | h
            · rcases List.mem_cons.mp h1 with h1 | h1
              · rw [h1] at h2
                exact absurd h2 e
              · exact .inl ⟨g', h1, h2⟩
            · exact .inr h
    obtain ⟨g, hg, hgb⟩ := List.any_eq_true.mp q
    have h := this gs (getG gs b ++ [t]) (.inl ⟨g, hg, of_decide_eq_true hgb⟩)
    show (((gs.map fun g => if g.1 = b then (g.1, getG gs b ++ [t]) else g).find? fun g => decide (g.1 = c)).map (·.2)).getD [] = _
    rw [h]
    split
    · rfl
    · rfl
  · rw [if_neg q]
    have hb : getG gs b = [] := by
      unfold getG
      rw [List.find?_eq_none.mpr fun g hm z => q (List.any_eq_true.mpr ⟨g, hm, z⟩)]
      rfl
    by_cases e : c = b
    · rw [if_pos e]
      subst e
      rw [hb]
      unfold getG
      rw [List.find?_append, List.find?_eq_none.mpr fun g hm z => q (List.any_eq_true.mpr ⟨g, hm, z⟩)]
      simp
    · rw [if_neg e]
      unfold getG
      rw [List.find?_append]
      have : ([(b, [t])] : Grp).find? (fun g => decide (g.1 = c)) = none := by
        simp [show ¬ b = c from fun z => e z.symm]
      rw [this]
      simp
theorem getG_adds (t : Nat) : ∀ (bs : List Nat) (gs : Grp) (c : Nat), bs.Nodup → getG (bs.foldl (addG t) gs) c = if c ∈ bs then getG gs c ++ [t] else getG gs c
  | [], gs, c, _ => by simp
  | b :: bs, gs, c, h => by
    rw [List.nodup_cons] at h
    rw [List.foldl_cons, getG_adds t bs _ c h.2, getG_add]
    by_cases e : c = b
    · subst e
      simp [h.1]
    · simp [e]
theorem keys_add (t : Nat) (bs : List Nat) : ∀ (gs : Grp) (c : Nat), c ∈ (bs.foldl (addG t) gs).map (·.1) ↔ c ∈ gs.map (·.1) ∨ c ∈ bs := by
  induction bs with
  | nil => intro gs c; simp
  | cons b bs ih =>
    intro gs c
    rw [List.foldl_cons, ih, addG_keys]
    by_cases h : b ∈ gs.map (·.1)
    · rw [if_pos h, List.mem_cons]
      constructor
      · rintro (z | z)
        · exact .inl z
        · exact .inr (.inr z)
      · rintro (z | z | z)
        · exact .inl z
        · exact .inl (by rw [z]; exact h)
        · exact .inr z
    · rw [if_neg h, List.mem_append, List.mem_singleton, List.mem_cons, or_assoc]
theorem allG_get {f : Nat → List Nat} (hf : ∀ t, (f t).Nodup) (c : Nat) (ts : List Nat) : getG (allG f ts) c = ts.filter fun t => decide (c ∈ f t) := by
  have : ∀ (ts : List Nat) (gs : Grp), getG (ts.foldl (fun gs t => (f t).foldl (addG t) gs) gs) c = getG gs c ++ ts.filter fun t => decide (c ∈ f t) := by
    intro ts
    induction ts with
    | nil => intro gs; simp
    | cons t ts ih =>
      intro gs
      rw [List.foldl_cons, ih, getG_adds t _ _ _ (hf t), List.filter_cons]
      by_cases h : c ∈ f t
      · simp [h]
      · simp [h]
  have := this ts []
  rw [show getG [] c = [] from rfl, List.nil_append] at this
  exact this
theorem allG_keys {f : Nat → List Nat} (c : Nat) (ts : List Nat) : c ∈ (allG f ts).map (·.1) ↔ ∃ t ∈ ts, c ∈ f t := by
  have : ∀ (ts : List Nat) (gs : Grp), c ∈ (ts.foldl (fun gs t => (f t).foldl (addG t) gs) gs).map (·.1) ↔ c ∈ gs.map (·.1) ∨ ∃ t ∈ ts, c ∈ f t := by
    intro ts
    induction ts with
    | nil => intro gs; simp
    | cons t ts ih =>
      intro gs
      rw [List.foldl_cons, ih, keys_add, or_assoc]
      simp only [List.mem_cons, exists_eq_or_imp]
  have := this ts []
  unfold allG
  rw [this]
  simp
section
variable {n : Nat} {rs : List Ru}
/-! ### rows -/
theorem mab_bit {cs : List Nat} {b i : Nat} : (mab n cs b).testBit i = true ↔ i < n ∧ ∀ o ∈ cs, o ≠ b → Sb b o → o.testBit i = true := by
  have : ∀ (cs : List Nat) (w : Nat), (cs.foldl (fun f o => if (!decide (o = b) && decide (o &&& b = b)) = true then f &&& o else f) w).testBit i = true ↔ w.testBit i = true ∧ ∀ o ∈ cs, o ≠ b → Sb b o → o.testBit i = true := by
    intro cs
    induction cs with
    | nil => intro w; simp
    | cons o cs ih =>
      intro w
      rw [List.foldl_cons, ih]
      have hs : o &&& b = b ↔ Sb b o := by unfold Sb; rw [Nat.and_comm]
      by_cases h1 : o = b
      · rw [if_neg (by simp [h1])]
        simp [h1]
      · by_cases h2 : Sb b o
        · rw [if_pos (by simp [h1, hs.mpr h2]), Nat.testBit_and, Bool.and_eq_true]
          simp only [List.mem_cons, forall_eq_or_imp, and_assoc]
          constructor
          · rintro ⟨z1, z2, z3⟩
            exact ⟨z1, fun _ _ => z2, z3⟩
          · rintro ⟨z1, z2, z3⟩
            exact ⟨z1, z2 h1 h2, z3⟩
        · have : ¬ o &&& b = b := fun z => h2 (hs.mp z)
          rw [if_neg (by simp [this])]
          simp only [List.mem_cons, forall_eq_or_imp]
          constructor
          · rintro ⟨z1, z3⟩
            exact ⟨z1, fun _ z => absurd z h2, z3⟩
          · rintro ⟨z1, z2, z3⟩
            exact ⟨z1, z3⟩
  unfold mab
  rw [this, whole_bit, decide_eq_true_iff]
theorem tops_mab {t c : Nat} (ht : t < n) : c ∈ tops n rs t ↔ c ∈ closed n rs ∧ (sd (mab n (closed n rs) c) c).testBit t = true := by
  rw [mem_tops, sd_bit, Bool.and_eq_true, mab_bit, Bool.not_eq_true']
  constructor
  · rintro ⟨⟨h1, h2⟩, h3⟩
    refine ⟨h1, ⟨ht, fun o o1 o2 o3 => ?_⟩, h2⟩
    cases e : o.testBit t
    · exact absurd (h3 o o1 e o3) o2
    · rfl
  · rintro ⟨h1, ⟨_, h2⟩, h3⟩
    refine ⟨⟨h1, h3⟩, fun o o1 o2 o3 => ?_⟩
    apply Classical.byContradiction
    intro z
    rw [h2 o o1 z o3] at o2
    cases o2
theorem mem_irr {c : Nat} : c ∈ irr n (closed n rs) ↔ ∃ t ∈ List.range n, c ∈ tops n rs t := by
  unfold irr
  rw [List.mem_filter]
  constructor
  · rintro ⟨h1, h2⟩
    have hne : mab n (closed n rs) c ≠ c := by simpa using h2
    have hlt := (mem_closed.mp h1).1
    have hs : Sb c (mab n (closed n rs) c) := sb_iff.mpr fun i hi => mab_bit.mpr ⟨bit_lt hlt hi, fun o _ _ o3 => sb_bit o3 hi⟩
    obtain ⟨t, t1, t2⟩ := not_sb (a := mab n (closed n rs) c) (b := c) fun z => hne (sb_anti z hs)
    have ht := (mab_bit.mp t1).1
    exact ⟨t, List.mem_range.mpr ht, (tops_mab ht).mpr ⟨h1, by rw [sd_bit, t1, t2]; rfl⟩⟩
  · rintro ⟨t, ht, h⟩
    obtain ⟨h1, h2⟩ := (tops_mab (List.mem_range.mp ht)).mp h
    refine ⟨h1, ?_⟩
    have : mab n (closed n rs) c ≠ c := fun z => by
      rw [z, sd_bit] at h2
      simp at h2
    simp [this]
theorem closed_pw : (closed n rs).Pairwise fun a b => le1 a b = true := ord_pw _
theorem rows_good (h : Bk n rs) : ord ((rowsG n rs).map (·.1)) = irr n (closed n rs) := by
  have hl : ∀ t, ∀ b ∈ tops n rs t, b < 1024 := fun t b hb => tops_lt h hb
  have ok : Gok (rowsG n rs) := allG_ok hl _
  refine ord_set (fun x hx => ?_) ok.nd (List.Pairwise.filter _ closed_nodup) (fun x => ?_) (closed_pw.sublist List.filter_sublist)
  · obtain ⟨g, hg, rfl⟩ := List.mem_map.mp hx
    exact ok.lt g hg
  · rw [mem_irr]
    exact allG_keys x _
theorem bar_good (h : Bk n rs) {c : Nat} (hc : c ∈ irr n (closed n rs)) : lotOf (sd (mab n (closed n rs) c) c) = getG (rowsG n rs) c := by
  have hcl := (List.mem_filter.mp hc).1
  rw [show getG (rowsG n rs) c = (List.range n).filter fun t => decide (c ∈ tops n rs t) from allG_get (fun t => tops_nodup) c _]
  refine lot_of_filter h.n10 _ fun x _ => ?_
  by_cases hx : x < n
  · rw [decide_eq_true hx, Bool.true_and]
    have := tops_mab (rs := rs) (c := c) hx
    cases e : (sd (mab n (closed n rs) c) c).testBit x
    · exact (decide_eq_false fun z => by rw [(this.mp z).2] at e; cases e).symm
    · exact (decide_eq_true (this.mpr ⟨hcl, e⟩)).symm
  · rw [decide_eq_false hx, Bool.false_and]
    cases e : (sd (mab n (closed n rs) c) c).testBit x
    · rfl
    · rw [sd_bit, Bool.and_eq_true] at e
      exact absurd (mab_bit.mp e.1).1 hx
/-! ### direct rules -/
theorem cls_get {b : Nat} (h : b < 2 ^ n) : (cls n rs).getD b 0 = clo rs b := by
  unfold cls
  rw [List.getD_eq_getElem?_getD, List.getElem?_map, List.getElem?_range h]
  rfl
theorem tmf_bit {l s : Nat} (hl : l < 2 ^ n) : (tmf (cls n rs) l).testBit s = true ↔ (clo rs l).testBit s = true ∧ l.testBit s = false ∧ ∀ t ∈ lotOf l, (clo rs (sd l (2 ^ t))).testBit s = false := by
  have : ∀ (ts : List Nat) (w : Nat), (ts.foldl (fun f t => sd f ((cls n rs).getD (sd l (2 ^ t)) 0)) w).testBit s = true ↔ w.testBit s = true ∧ ∀ t ∈ ts, (clo rs (sd l (2 ^ t))).testBit s = false := by
    intro ts
    induction ts with
    | nil => intro w; simp
    | cons t ts ih =>
      intro w
      rw [List.foldl_cons, ih, sd_bit, Bool.and_eq_true, Bool.not_eq_true', cls_get (Nat.lt_of_le_of_lt (sd_le _ _) hl)]
      simp only [List.mem_cons, forall_eq_or_imp, and_assoc]
  unfold tmf
  rw [this, cls_get hl, sd_bit, Bool.and_eq_true, Bool.not_eq_true', and_assoc]
theorem mk_tmf (h : Bk n rs) {l s : Nat} (hl : l < 2 ^ n) : Mk n rs s l ↔ (tmf (cls n rs) l).testBit s = true := by
  rw [tmf_bit hl]
  constructor
  · intro m
    refine ⟨m.tc, m.nt, fun t ht => ?_⟩
    cases e : (clo rs (sd l (2 ^ t))).testBit s
    · rfl
    · have := m.mn _ (sd_sb l (2 ^ t)) e
      have h2 := (mem_lotOf.mp ht).2
      rw [← this, sd_bit, Nat.testBit_two_pow_self] at h2
      simp at h2
  · rintro ⟨h1, h2, h3⟩
    refine ⟨hl, h2, h1, fun Y y1 y2 => ?_⟩
    apply Classical.byContradiction
    intro z
    obtain ⟨t, t1, t2⟩ := not_sb (a := l) (b := Y) fun w => z (sb_anti y1 w)
    have hs : Sb Y (sd l (2 ^ t)) := sb_iff.mpr fun i hi => by
      rw [sd_bit, sb_bit y1 hi, Nat.testBit_two_pow]
      have : t ≠ i := fun w => by
        rw [w, hi] at t2
        cases t2
      simp [this]
    have hlt : sd l (2 ^ t) < 2 ^ n := Nat.lt_of_le_of_lt (sd_le _ _) hl
    have := sb_bit (clo_mono h hlt hs) y2
    rw [h3 t (mem_lotOf.mpr ⟨bit_lt (lt10 h.n10 hl) t1, t1⟩)] at this
    cases this
theorem tmf_lt (h : Bk n rs) {l : Nat} (hl : l < 2 ^ n) : tmf (cls n rs) l < 2 ^ n := lt_of_bits fun i hi => bit_lt (clo_lt h.lt hl) ((tmf_bit hl).mp hi).1
theorem dirR_eq : dirR n rs = ((ord (List.range (2 ^ n))).filter fun l => decide (tmf (cls n rs) l ≠ 0)).map fun l => (l, tmf (cls n rs) l) := by
  have : ∀ (L : List Nat) (acc : List Ru), L.foldl (fun acc l => if tmf (cls n rs) l ≠ 0 then acc ++ [(l, tmf (cls n rs) l)] else acc) acc = acc ++ (L.filter fun l => decide (tmf (cls n rs) l ≠ 0)).map fun l => (l, tmf (cls n rs) l) := by
    intro L
    induction L with
    | nil => intro acc; simp
    | cons x L ih =>
      intro acc
      rw [List.foldl_cons, ih, List.filter_cons]
      by_cases h : tmf (cls n rs) x ≠ 0
      · rw [if_pos h, if_pos (decide_eq_true h), List.map_cons]
        simp
      · rw [if_neg h, if_neg (by simpa using h)]
  have := this (ord (List.range (2 ^ n))) []
  rw [List.nil_append] at this
  exact this
theorem ne_zero_bit {m : Nat} : m ≠ 0 ↔ ∃ i, m.testBit i = true := by
  have := meet_iff (a := m) (b := m)
  rw [Nat.and_self] at this
  rw [this]
  simp
theorem mem_known (h : Bk n rs) {b : Nat} : b ∈ (knownG n rs).map (·.1) ↔ b ∈ (ord (List.range (2 ^ n))).filter fun l => decide (tmf (cls n rs) l ≠ 0) := by
  unfold knownG
  rw [allG_keys, List.mem_filter, mem_ord, List.mem_range, decide_eq_true_iff, ne_zero_bit]
  constructor
  · rintro ⟨t, t1, t2⟩
    have m := (mem_rule h (List.mem_range.mp t1)).mp t2
    exact ⟨m.lt, t, (mk_tmf h m.lt).mp m⟩
  · rintro ⟨h1, t, h2⟩
    have ht := bit_lt (tmf_lt h h1) h2
    exact ⟨t, List.mem_range.mpr ht, (mem_rule h ht).mpr ((mk_tmf h h1).mpr h2)⟩
theorem due_good (h : Bk n rs) : (ord ((knownG n rs).map (·.1))).map (fun b => PyData.tuple [lotM b, lotD (getG (knownG n rs) b)]) = (dirR n rs).map ruleMD := by
  have hl : ∀ t, ∀ b ∈ hit n (rests n rs t), b < 1024 := fun t b hb => Nat.lt_of_lt_of_le (hit_lt hb) (pow10 h.n10)
  have ok : Gok (knownG n rs) := allG_ok hl _
  have e : ord ((knownG n rs).map (·.1)) = (ord (List.range (2 ^ n))).filter fun l => decide (tmf (cls n rs) l ≠ 0) := by
    refine ord_set (fun x hx => ?_) ok.nd (List.Pairwise.filter _ (range_ord_nodup _)) (fun x => mem_known h) ((ord_pw _).sublist List.filter_sublist)
    obtain ⟨g, hg, rfl⟩ := List.mem_map.mp hx
    exact ok.lt g hg
  rw [e, dirR_eq, List.map_map]
  refine List.map_congr_left fun b hb => ?_
  have hb2 : b < 2 ^ n := List.mem_range.mp (mem_ord.mp (List.mem_filter.mp hb).1)
  show PyData.tuple [lotM b, lotD (getG (knownG n rs) b)] = .tuple [lotM b, lotD (lotOf (tmf (cls n rs) b))]
  have : lotOf (tmf (cls n rs) b) = getG (knownG n rs) b := by
    rw [show getG (knownG n rs) b = (List.range n).filter fun t => decide (b ∈ hit n (rests n rs t)) from allG_get (fun t => hit_nodup h.n10 _) b _]
    refine lot_of_filter h.n10 _ fun x _ => ?_
    by_cases hx : x < n
    · rw [decide_eq_true hx, Bool.true_and]
      have h1 := mem_rule (A := b) h hx
      have h2 := mk_tmf (l := b) (s := x) h hb2
      cases e : (tmf (cls n rs) b).testBit x
      · exact (decide_eq_false fun z => by rw [h2.mp (h1.mp z)] at e; cases e).symm
      · exact (decide_eq_true (h1.mpr (h2.mpr e))).symm
    · rw [decide_eq_false hx, Bool.false_and]
      cases e : (tmf (cls n rs) b).testBit x
      · rfl
      · exact absurd (bit_lt (tmf_lt h hb2) e) hx
  rw [this]
theorem dir_mem {r : Ru} (hr : r ∈ dirR n rs) : r.1 < 2 ^ n ∧ r.2 = tmf (cls n rs) r.1 := by
  rw [dirR_eq] at hr
  obtain ⟨l, hl, rfl⟩ := List.mem_map.mp hr
  exact ⟨List.mem_range.mp (mem_ord.mp (List.mem_filter.mp hl).1), rfl⟩
theorem dir_bk (h : Bk n rs) (h7 : n ≤ 7) : Bk n (dirR n rs) := by
  refine ⟨h.n10, ?_, fun r hr => ?_⟩
  · rw [dirR_eq, List.length_map]
    refine Nat.le_trans (List.length_filter_le ..) ?_
    rw [ord_len, List.length_range]
    exact Nat.le_trans (Nat.pow_le_pow_right (show 0 < 2 by decide) h7) (by decide)
  · obtain ⟨h1, h2⟩ := dir_mem hr
    exact ⟨h1, by rw [h2]; exact tmf_lt h h1⟩
theorem sd_zero {a b : Nat} : sd a b = 0 ↔ Sb a b := by
  constructor
  · intro h
    refine sb_iff.mpr fun i hi => ?_
    have := congrArg (fun x => x.testBit i) h
    simp only [sd_bit, hi, Bool.true_and, Nat.zero_testBit] at this
    simpa using this
  · intro h
    apply Nat.eq_of_testBit_eq
    intro i
    rw [sd_bit, Nat.zero_testBit]
    cases e : a.testBit i
    · rfl
    · rw [sb_bit h e]
      rfl
theorem aar_bit {D : List Ru} {l i : Nat} : (aar D l).testBit i = true ↔ l.testBit i = true ∨ ∃ r ∈ D, Sb r.1 l ∧ r.2.testBit i = true := by
  have : ∀ (D : List Ru) (f : Nat), (D.foldl (fun f r => if sd r.1 l = 0 then f ||| r.2 else f) f).testBit i = true ↔ f.testBit i = true ∨ ∃ r ∈ D, Sb r.1 l ∧ r.2.testBit i = true := by
    intro D
    induction D with
    | nil => intro f; simp
    | cons r D ih =>
      intro f
      rw [List.foldl_cons, ih]
      simp only [List.mem_cons, exists_eq_or_imp]
      by_cases h : sd r.1 l = 0
      · rw [if_pos h, Nat.testBit_or, Bool.or_eq_true, or_assoc]
        have hs := sd_zero.mp h
        simp only [hs, true_and]
      · rw [if_neg h]
        have hs : ¬ Sb r.1 l := fun z => h (sd_zero.mpr z)
        simp only [hs, false_and, false_or]
  exact this D l
theorem aar_clo (h : Bk n rs) {l : Nat} (hl : l < 2 ^ n) : aar (dirR n rs) l = clo rs l := by
  refine eq_of_bits fun i => ?_
  rw [aar_bit, clo_bit h hl]
  constructor
  · rintro (z | ⟨r, r1, r2, r3⟩)
    · exact .inl z
    · obtain ⟨h1, h2⟩ := dir_mem r1
      rw [h2] at r3
      exact .inr ⟨bit_lt (tmf_lt h h1) r3, r.1, (mk_tmf h h1).mpr r3, r2⟩
  · rintro (z | ⟨hi, A, a1, a2⟩)
    · exact .inl z
    · have hb := (mk_tmf h a1.lt).mp a1
      refine .inr ⟨(A, tmf (cls n rs) A), ?_, a2, hb⟩
      rw [dirR_eq]
      exact List.mem_map.mpr ⟨A, List.mem_filter.mpr ⟨mem_ord.mpr (List.mem_range.mpr a1.lt), decide_eq_true (ne_zero_bit.mpr ⟨i, hb⟩)⟩, rfl⟩
theorem once_good (h : Bk n rs) (hc : (closed n rs).length ≤ 60) : Once n rs :=
  ⟨h, Nat.le_trans (List.length_filter_le ..) hc, rows_good h, fun c hc => bar_good h hc, fun _ => due_good h, fun h7 => dir_bk h h7, fun _ l hl => by
    rw [aar_clo h hl, aar_clo h (clo_lt h.lt hl), clo_of_closed (clo_closed h hl)]⟩
end
end Mt

set_option maxHeartbeats 1000000
namespace Mt
open PySem PySem.Spec PyProof.Rows L2
/-! ### all parts -/
theorem lw_ok : ∀ (ts D many : List Nat), (D ++ ts).Nodup → many.Nodup → (∀ o, o ∈ many ↔ ∀ i, o.testBit i = true → i ∈ D) →
    (ts.foldl (fun many t => many ++ many.map fun o => o ||| 2 ^ t) many).Nodup ∧ ∀ o, o ∈ ts.foldl (fun many t => many ++ many.map fun o => o ||| 2 ^ t) many ↔ ∀ i, o.testBit i = true → i ∈ D ++ ts
  | [], D, many, _, h1, h2 => by
    rw [List.append_nil]
    exact ⟨h1, h2⟩
  | t :: ts, D, many, hn, h1, h2 => by
    rw [List.foldl_cons, show D ++ t :: ts = (D ++ [t]) ++ ts by simp]
    have htD : t ∉ D := fun z => by
      rw [List.nodup_append] at hn
      exact hn.2.2 t z t List.mem_cons_self rfl
    have hno : ∀ o ∈ many, o.testBit t = false := fun o ho => by
      cases e : o.testBit t
      · rfl
      · exact absurd ((h2 o).mp ho t e) htD
    refine lw_ok ts (D ++ [t]) _ (by simpa using hn) ?_ fun o => ?_
    · rw [List.nodup_append]
      refine ⟨h1, ?_, fun a ha b hb e => ?_⟩
      · rw [List.Nodup, List.pairwise_map]
        refine List.Pairwise.imp_of_mem (fun {a b} ha hb hne e => hne ?_) h1
        apply Nat.eq_of_testBit_eq
        intro i
        have := congrArg (fun x => x.testBit i) e
        simp only [Nat.testBit_or, Nat.testBit_two_pow] at this
        by_cases hi : t = i
        · rw [← hi, hno a ha, hno b hb]
        · simpa [hi] using this
      · obtain ⟨c, hc, rfl⟩ := List.mem_map.mp hb
        have := hno a ha
        rw [e, Nat.testBit_or, Nat.testBit_two_pow_self] at this
        simp at this
    · rw [List.mem_append, List.mem_map]
      constructor
      · rintro (z | ⟨c, z1, rfl⟩) i hi
        · exact List.mem_append_left _ ((h2 o).mp z i hi)
        · rw [Nat.testBit_or, Nat.testBit_two_pow, Bool.or_eq_true] at hi
          rcases hi with hi | hi
          · exact List.mem_append_left _ ((h2 c).mp z1 i hi)
          · rw [← of_decide_eq_true hi]
            simp
      · intro h
        cases e : o.testBit t
        · refine .inl ((h2 o).mpr fun i hi => ?_)
          rcases List.mem_append.mp (h i hi) with z | z
          · exact z
          · rw [show i = t by simpa using z, e] at hi
            cases hi
        · refine .inr ⟨sd o (2 ^ t), (h2 _).mpr fun i hi => ?_, ?_⟩
          · rw [sd_bit, Nat.testBit_two_pow, Bool.and_eq_true] at hi
            rcases List.mem_append.mp (h i hi.1) with z | z
            · exact z
            · rw [show i = t by simpa using z] at hi
              simp at hi
          · apply Nat.eq_of_testBit_eq
            intro i
            rw [Nat.testBit_or, sd_bit, Nat.testBit_two_pow]
            by_cases hi : t = i
            · rw [← hi, e]
              simp
            · simp [hi]
theorem lw_all {b : Nat} (hb : b < 1024) : (lw b).Nodup ∧ ∀ o, o ∈ lw b ↔ Sb o b := by
  have h := lw_ok (lotOf b) [] [0] (by simpa using lotOf_nodup b) (by simp) fun o => by
    constructor
    · intro z i hi
      rw [show o = 0 by simpa using z] at hi
      simp at hi
    · intro z
      have : o = 0 := by
        apply Nat.eq_of_testBit_eq
        intro i
        rw [Nat.zero_testBit]
        cases e : o.testBit i
        · rfl
        · cases z i e
      rw [this]
      simp
  refine ⟨h.1, fun o => ?_⟩
  show o ∈ (lotOf b).foldl _ [0] ↔ _
  rw [h.2, sb_iff]
  constructor
  · intro z i hi
    exact (mem_lotOf.mp (by simpa using z i hi)).2
  · intro z i hi
    have := z i hi
    simpa using mem_lotOf.mpr ⟨bit_lt (n := 10) hb this, this⟩
section
variable {n : Nat} {rs : List Ru}
/-! ### keys -/
theorem blw_ok {cs : List Nat} {b : Nat} : (∀ o ∈ blw cs b, o ∈ cs ∧ o ≠ b) ∧ ∀ c ∈ cs, Sb c b → c ≠ b → ∃ o ∈ blw cs b, Sb c o := by
  have key : ∀ (L acc : List Nat), (∀ o ∈ L.foldl (blwF b) acc, o ∈ acc ∨ (o ∈ L ∧ o ≠ b)) ∧ (∀ o ∈ acc, o ∈ L.foldl (blwF b) acc) ∧ ∀ c ∈ L, Sb c b → c ≠ b → ∃ o ∈ L.foldl (blwF b) acc, Sb c o := by
    intro L
    induction L with
    | nil => intro acc; exact ⟨fun o h => .inl h, fun o h => h, fun c h => nomatch h⟩
    | cons x L ih =>
      intro acc
      rw [List.foldl_cons]
      obtain ⟨h1, h2, h3⟩ := ih (blwF b acc x)
      unfold blwF at h1 h2 h3 ⊢
      by_cases hc : (decide (x &&& b = x) && (!decide (x = b) && (acc.map fun g => !decide (x &&& g = x)).all id)) = true
      · rw [if_pos hc] at h1 h2 h3 ⊢
        refine ⟨fun o ho => ?_, fun o ho => h2 o (List.mem_append_left _ ho), fun c hcm s1 s2 => ?_⟩
        · rcases h1 o ho with z | z
          · rcases List.mem_append.mp z with z | z
            · exact .inl z
            · have e : o = x := by simpa using z
              refine .inr ⟨by rw [e]; exact List.mem_cons_self, fun w => ?_⟩
              simp [← e, w] at hc
          · exact .inr ⟨List.mem_cons_of_mem _ z.1, z.2⟩
        · rcases List.mem_cons.mp hcm with z | z
          · exact ⟨x, h2 x (by simp), by rw [z]; exact sb_refl x⟩
          · exact h3 c z s1 s2
      · rw [if_neg hc] at h1 h2 h3 ⊢
        refine ⟨fun o ho => ?_, h2, fun c hcm s1 s2 => ?_⟩
        · rcases h1 o ho with z | z
          · exact .inl z
          · exact .inr ⟨List.mem_cons_of_mem _ z.1, z.2⟩
        · rcases List.mem_cons.mp hcm with z | z
          · have hne : ¬ (acc.map fun g => !decide (x &&& g = x)).all id = true := fun w => hc (by
              rw [w, ← z]
              simp [s2, show c &&& b = c from s1])
            have : ∃ g ∈ acc, Sb x g := by
              apply Classical.byContradiction
              intro w
              apply hne
              rw [List.all_map]
              refine List.all_eq_true.mpr fun g hg => ?_
              have : ¬ x &&& g = x := fun y => w ⟨g, hg, y⟩
              simp [this]
            obtain ⟨g, g1, g2⟩ := this
            exact ⟨g, h2 g g1, by rw [z]; exact g2⟩
          · exact h3 c z s1 s2
  obtain ⟨h1, _, h3⟩ := key cs.reverse []
  refine ⟨fun o ho => ?_, fun c hc s1 s2 => ?_⟩
  · rcases h1 o (mem_ord.mp ho) with z | z
    · cases z
    · exact ⟨List.mem_reverse.mp z.1, z.2⟩
  · obtain ⟨o, o1, o2⟩ := h3 c (List.mem_reverse.mpr hc) s1 s2
    exact ⟨o, mem_ord.mpr o1, o2⟩
theorem sb_whole {a : Nat} (h : a < 2 ^ n) : Sb a (2 ^ n - 1) := by
  unfold Sb
  rw [Nat.and_comm]
  exact whole_sup h
theorem clo_whole (h : Bk n rs) : clo rs (2 ^ n - 1) = 2 ^ n - 1 := clo_of_closed (whole_closed h)
theorem hits_keys (h : Bk n rs) {o : Nat} (ho : o < 2 ^ n) : Hits ((blw (closed n rs) (2 ^ n - 1)).map (sd (2 ^ n - 1))) o ↔ clo rs o = 2 ^ n - 1 := by
  obtain ⟨b1, b2⟩ := blw_ok (cs := closed n rs) (b := 2 ^ n - 1)
  constructor
  · intro hh
    apply Classical.byContradiction
    intro z
    have hc := clo_closed h ho
    obtain ⟨p, p1, p2⟩ := b2 _ hc (sb_whole (mem_closed.mp hc).1) z
    obtain ⟨i, i1, i2⟩ := meet_iff.mp (hh _ (List.mem_map.mpr ⟨p, p1, rfl⟩))
    rw [sd_bit, Bool.and_eq_true, Bool.not_eq_true'] at i2
    rw [sb_bit (sb_trans (clo_sup rs o) p2) i1] at i2
    cases i2.2
  · intro hc l hl
    obtain ⟨p, p1, rfl⟩ := List.mem_map.mp hl
    obtain ⟨q1, q2⟩ := b1 p p1
    apply Classical.byContradiction
    intro z
    have hs : Sb o p := sb_iff.mpr fun i hi => by
      cases e : p.testBit i
      · exact absurd (meet_iff.mpr ⟨i, hi, by rw [sd_bit, whole_bit, decide_eq_true (bit_lt ho hi), e]; rfl⟩) z
      · rfl
    have := clo_min hs (mem_closed.mp q1).2
    rw [hc] at this
    exact q2 (sb_anti (sb_whole (mem_closed.mp q1).1) this)
theorem isN_spare {cs : List Nat} {o : Nat} : isN (optD ((spare cs o).map nt)) = true ↔ ∀ t ∈ lotOf o, (cs.getD (sd o (2 ^ t)) 0).testBit t = false := by
  unfold spare
  cases e : (lotOf o).find? fun t => (cs.getD (sd o (2 ^ t)) 0).testBit t with
  | none =>
    constructor
    · intro _ t ht
      simpa using List.find?_eq_none.mp e t ht
    · intro _
      rfl
  | some t =>
    constructor
    · intro z
      cases z
    · intro z
      have h1 := List.find?_some e
      rw [z t (List.mem_of_find?_eq_some e)] at h1
      cases h1
theorem key_good (h : Bk n rs) : Keyf n rs := by
  have hn := h.n10
  have hw := whole_lt n
  have hw10 : 2 ^ n - 1 < 1024 := lt10 hn hw
  refine ⟨h, Nat.le_trans (blw_len _ _) (Nat.le_trans (closed_len' h) (by decide)), ?_⟩
  have e1 : (cls n rs).getD (2 ^ n - 1) 0 = 2 ^ n - 1 := by rw [cls_get hw, clo_whole h]
  obtain ⟨l1, l2⟩ := lw_all hw10
  unfold mkb
  rw [e1]
  symm
  have hlt : ∀ o ∈ lw (2 ^ n - 1), o < 2 ^ n := fun o ho => sb_lt ((l2 o).mp ho) hw
  refine ord_set (fun x hx => ?_) (List.Pairwise.filter _ (List.Pairwise.filter _ l1)) (hit_nodup hn _) (fun o => ?_) (hit_pw hn _)
  · exact lt10 hn (hlt x (List.mem_filter.mp (List.mem_filter.mp hx).1).1)
  · rw [List.mem_filter, List.mem_filter, isN_spare, mem_hit hn, l2]
    constructor
    · rintro ⟨⟨h1, h2⟩, h3⟩
      have ho := sb_lt h1 hw
      have h2 : clo rs o = 2 ^ n - 1 := by
        have := of_decide_eq_true h2
        rwa [cls_get ho] at this
      refine ⟨ho, (hits_keys h ho).mpr h2, fun Y y1 y2 => ?_⟩
      have hY := sb_lt y1 ho
      have y3 := (hits_keys h hY).mp y2
      apply Classical.byContradiction
      intro z
      obtain ⟨t, t1, t2⟩ := not_sb (a := o) (b := Y) fun w => z (sb_anti y1 w)
      have hs : Sb Y (sd o (2 ^ t)) := sb_iff.mpr fun i hi => by
        rw [sd_bit, sb_bit y1 hi, Nat.testBit_two_pow]
        have : t ≠ i := fun w => by
          rw [w, hi] at t2
          cases t2
        simp [this]
      have hlt2 : sd o (2 ^ t) < 2 ^ n := Nat.lt_of_le_of_lt (sd_le _ _) ho
      have := h3 t (mem_lotOf.mpr ⟨bit_lt (lt10 hn ho) t1, t1⟩)
      rw [cls_get hlt2, sb_bit (clo_mono h hlt2 hs) (by rw [y3, whole_bit]; exact decide_eq_true (bit_lt ho t1))] at this
      cases this
    · intro m
      have hc := (hits_keys h m.lt).mp m.ht
      refine ⟨⟨sb_whole m.lt, by rw [cls_get m.lt]; exact decide_eq_true hc⟩, fun t ht => ?_⟩
      have hlt2 : sd o (2 ^ t) < 2 ^ n := Nat.lt_of_le_of_lt (sd_le _ _) m.lt
      rw [cls_get hlt2]
      cases e : (clo rs (sd o (2 ^ t))).testBit t
      · rfl
      · have ht2 := (mem_lotOf.mp ht).2
        have hs : Sb o (clo rs (sd o (2 ^ t))) := sb_iff.mpr fun i hi => by
          by_cases w : i = t
          · rw [w]; exact e
          · refine sb_bit (clo_sup rs _) ?_
            rw [sd_bit, hi, Nat.testBit_two_pow, decide_eq_false (Ne.symm w)]
            rfl
        have h4 := clo_min hs (clo_kept h hlt2)
        rw [hc] at h4
        have h5 := sb_anti (sb_whole (clo_lt h.lt hlt2)) h4
        have := m.mn _ (sd_sb o (2 ^ t)) ((hits_keys h hlt2).mpr h5)
        rw [← this, sd_bit, Nat.testBit_two_pow_self] at ht2
        simp at ht2
/-! ### found -/
structure Fam (n : Nat) (rs : List Ru) (fam : List Nat) : Prop where
  nd : fam.Nodup
  mem : ∀ m, m ∈ fam ↔ m ∈ closed n rs
  last : fam.getLastD 0 = 2 ^ n - 1
  len : fam.length ≤ 60
theorem mem_wtops {fam : List Nat} (hf : Fam n rs fam) {t c : Nat} : c ∈ wtops fam t ↔ c ∈ tops n rs t := by
  unfold wtops tops
  rw [mem_gre, mem_gre]
  simp only [List.mem_filter, hf.mem]
theorem no_meet {m t : Nat} (h : m.testBit t = false) : m &&& 2 ^ t = 0 := by
  apply Classical.byContradiction
  intro z
  obtain ⟨i, i1, i2⟩ := meet_iff.mp z
  rw [Nat.testBit_two_pow] at i2
  rw [← of_decide_eq_true i2, h] at i1
  cases i1
theorem fnd_good (h : Bk n rs) {fam : List Nat} (hf : Fam n rs fam) {t : Nat} (ht : t < n) : Fnd n rs fam t := by
  have hn := h.n10
  have wn : (wtops fam t).Nodup := List.Pairwise.filter _ (List.Pairwise.filter _ hf.nd)
  have wl : ∀ x ∈ wtops fam t, x < 1024 := fun x hx => tops_lt h ((mem_wtops hf).mp hx)
  have hne : fam ≠ [] := fun z => by
    have := (hf.mem (2 ^ n - 1)).mpr (whole_closed h)
    rw [z] at this
    cases this
  have fit : ∀ m ∈ wtops fam t, m + 2 ^ t ≤ 2 ^ n - 1 := fun m hm => by
    have hm2 := (mem_wtops hf).mp hm
    have h1 := tops_lt' hm2
    have h2 := (mem_tops.mp hm2).1.2
    rw [or_add m (2 ^ t) (no_meet h2)]
    have : m ||| 2 ^ t < 2 ^ n := Nat.or_lt_two_pow h1 (Nat.pow_lt_pow_right (by decide) ht)
    omega
  have el : lacks fam t = (wtops fam t).map fun m => sd (sd (2 ^ n - 1) (2 ^ t)) m := by
    unfold lacks
    refine List.map_congr_left fun m hm => ?_
    have hm2 := (mem_wtops hf).mp hm
    have h1 := tops_lt' hm2
    have h2 := (mem_tops.mp hm2).1.2
    have e1 : sd (2 ^ n - 1) (2 ^ t) = 2 ^ n - 1 - 2 ^ t := by
      have := (sub_xor (2 ^ n - 1) (2 ^ t)).1
      rw [whole_sup (Nat.pow_lt_pow_right (by decide) ht)] at this
      unfold sd
      rw [whole_sup (Nat.pow_lt_pow_right (by decide) ht)]
      exact this.symm
    have hs : Sb m (sd (2 ^ n - 1) (2 ^ t)) := sb_iff.mpr fun i hi => by
      rw [sd_bit, whole_bit, decide_eq_true (bit_lt h1 hi), Nat.testBit_two_pow]
      have : t ≠ i := fun w => by
        rw [← w, h2] at hi
        cases hi
      simp [this]
    have e2 : sd (sd (2 ^ n - 1) (2 ^ t)) m = sd (2 ^ n - 1) (2 ^ t) - m := by
      have := (sub_xor (sd (2 ^ n - 1) (2 ^ t)) m).1
      have e3 : sd (2 ^ n - 1) (2 ^ t) &&& m = m := by rw [Nat.and_comm]; exact hs
      rw [e3] at this
      show sd (2 ^ n - 1) (2 ^ t) ^^^ (sd (2 ^ n - 1) (2 ^ t) &&& m) = _
      rw [e3]
      exact this.symm
    rw [e2, e1, hf.last]
    omega
  have mem_l : ∀ l, l ∈ lacks fam t ↔ l ∈ rests n rs t := fun l => by
    rw [el]
    unfold rests
    rw [List.mem_map, List.mem_map]
    simp only [mem_wtops hf]
  refine ⟨h, ht, hne, by have := hf.len; omega, fun m hm => by rw [hf.last]; exact fit m hm, ?_, ?_⟩
  · exact ord_set wl wn tops_nodup (fun x => mem_wtops hf) ((closed_pw.sublist List.filter_sublist).sublist List.filter_sublist)
  · have fw := stpsB_few (lacks fam t)
    refine ord_set fw.lt fw.nd (hit_nodup hn _) (fun x => ?_) (hit_pw hn _)
    rw [steps_ok _ (fun m hm => lt10 hn (rests_lt ((mem_l m).mp hm))), min10 hn (fun m hm => rests_lt ((mem_l m).mp hm)), mem_hit hn]
    have hh : ∀ X, Hits (lacks fam t) X ↔ Hits (rests n rs t) X := fun X => ⟨fun z l hl => z l ((mem_l l).mpr hl), fun z l hl => z l ((mem_l l).mp hl)⟩
    constructor
    · intro m
      exact ⟨m.lt, (hh _).mp m.ht, fun Y y1 y2 => m.mn Y y1 ((hh _).mpr y2)⟩
    · intro m
      exact ⟨m.lt, (hh _).mpr m.ht, fun Y y1 y2 => m.mn Y y1 ((hh _).mp y2)⟩
theorem good_of (h : Bk n rs) {fam : List Nat} (hf : Fam n rs fam) : Good n rs fam := by
  refine ⟨h, fun t ht => fnd_good h hf ht, fun t ht => hit_good h ht, key_good h, clos_good h, once_good h ?_⟩
  rw [← (nodup_perm hf.nd closed_nodup hf.mem).length_eq]
  exact hf.len
theorem plain_good (h5 : n ≤ 5) (hl : rs.length ≤ 8) (ho : okR n rs) : Bk n rs ∧ Fam n rs (cl0 n rs) := by
  have h : Bk n rs := ⟨by omega, by omega, ho⟩
  refine ⟨h, List.Pairwise.filter _ List.nodup_range, fun m => ?_, ?_, ?_⟩
  · rw [mem_closed]
    unfold cl0
    rw [List.mem_filter, List.mem_range]
  · unfold cl0
    have e : 2 ^ n = (2 ^ n - 1) + 1 := by have := Nat.two_pow_pos n; omega
    rw [e, List.range_succ, List.filter_append]
    have : [2 ^ n - 1].filter (kept rs) = [2 ^ n - 1] := by
      rw [List.filter_cons, if_pos (kept_whole h)] <;> rfl
    rw [this]
    simp
  · refine Nat.le_trans (List.length_filter_le ..) ?_
    rw [List.length_range]
    exact Nat.le_trans (Nat.pow_le_pow_right (show 0 < 2 by decide) h5) (by decide)
end
end Mt

set_option maxHeartbeats 1000000
namespace Mt
open PySem PySem.Spec PyProof.Rows L2
/-! ### masks of lists -/
theorem msk_bit : ∀ {l : List Nat}, l.Nodup → ∀ t, (msk l).testBit t = true ↔ t ∈ l
  | [], _, t => by simp [msk]
  | x :: l, h, t => by
    rw [List.nodup_cons] at h
    have ih := msk_bit h.2
    have e : msk (x :: l) = 2 ^ x + msk l := by
      unfold msk
      rw [List.map_cons, List.sum_cons]
    have hx : (msk l).testBit x = false := by
      cases q : (msk l).testBit x
      · rfl
      · exact absurd ((ih x).mp q) h.1
    rw [e, or_add _ _ (by rw [Nat.and_comm]; exact no_meet hx), Nat.testBit_or, Nat.testBit_two_pow, Bool.or_eq_true, ih t, List.mem_cons, decide_eq_true_iff]
    constructor
    · rintro (z | z)
      · exact .inl z.symm
      · exact .inr z
    · rintro (z | z)
      · exact .inl z.symm
      · exact .inr z
def sel (g : List Nat → List Nat) (q : Nat) (L : List (List Nat × Nat)) : List Nat := (L.filter fun p => q.testBit p.2).flatMap fun p => g p.1
theorem sprd_sel (g : List Nat → List Nat) (q : Nat) (xss : List (List Nat)) : sprd (xss.map fun x => msk (g x)) q = msk (sel g q xss.zipIdx) := by
  have : ∀ L : List (List Nat × Nat), (((L.map fun p => (msk (g p.1), p.2)).filter fun p => q.testBit p.2).map (·.1)).sum = msk (sel g q L) := by
    intro L
    induction L with
    | nil => rfl
    | cons p L ih =>
      unfold sel at ih ⊢
      rw [List.map_cons, List.filter_cons, List.filter_cons]
      by_cases h : q.testBit p.2 = true
      · rw [if_pos h, if_pos h, List.map_cons, List.sum_cons, ih, List.flatMap_cons]
        unfold msk
        rw [List.map_append, List.sum_append]
      · rw [if_neg h, if_neg h]
        exact ih
  unfold sprd
  rw [List.zipIdx_map]
  exact this _
theorem sel_sub {g : List Nat → List Nat} {q : Nat} : ∀ L : List (List Nat × Nat), (∀ p ∈ L, (g p.1).Sublist p.1) → (sel g q L).Sublist (L.map (·.1)).flatten
  | [], _ => by simp [sel]
  | p :: L, h => by
    have ih := sel_sub (q := q) L fun x hx => h x (List.mem_cons_of_mem _ hx)
    unfold sel at ih ⊢
    rw [List.filter_cons, List.map_cons, List.flatten_cons]
    by_cases hq : q.testBit p.2 = true
    · rw [if_pos hq, List.flatMap_cons]
      exact (h p List.mem_cons_self).append ih
    · rw [if_neg hq]
      exact ih.trans (List.sublist_append_right _ _)
section
variable {w n : Nat} {xss : List (List Nat)}
theorem sprd_bit (hp : Part w n xss) {g : List Nat → List Nat} (hg : ∀ x ∈ xss, (g x).Sublist x) (q t : Nat) : (sprd (xss.map fun x => msk (g x)) q).testBit t = true ↔ ∃ (i : Nat) (x : List Nat), xss[i]? = some x ∧ q.testBit i = true ∧ t ∈ g x := by
  have hz : ∀ p ∈ xss.zipIdx, p.1 ∈ xss := fun p hpm => by
    obtain ⟨a, i⟩ := p
    exact List.mem_of_getElem? (List.mk_mem_zipIdx_iff_getElem?.mp hpm)
  have hnd : (sel g q xss.zipIdx).Nodup := by
    have h1 := sel_sub (g := g) (q := q) xss.zipIdx fun p hpm => hg p.1 (hz p hpm)
    rw [List.zipIdx_map_fst] at h1
    exact (List.Nodup.perm List.nodup_range hp.perm.symm).sublist h1
  rw [sprd_sel, msk_bit hnd]
  unfold sel
  rw [List.mem_flatMap]
  constructor
  · rintro ⟨⟨x, i⟩, h1, h2⟩
    obtain ⟨h3, h4⟩ := List.mem_filter.mp h1
    exact ⟨i, x, List.mk_mem_zipIdx_iff_getElem?.mp h3, h4, h2⟩
  · rintro ⟨i, x, h1, h2, h3⟩
    exact ⟨(x, i), List.mem_filter.mpr ⟨List.mk_mem_zipIdx_iff_getElem?.mpr h1, h2⟩, h3⟩
theorem part_uniq (hp : Part w n xss) {i j t : Nat} {x y : List Nat} (h1 : xss[i]? = some x) (h2 : xss[j]? = some y) (t1 : t ∈ x) (t2 : t ∈ y) : i = j := by
  have hnd : xss.flatten.Nodup := List.Nodup.perm List.nodup_range hp.perm.symm
  have hpw := (List.pairwise_flatten.mp hnd).2
  rw [List.pairwise_iff_getElem] at hpw
  obtain ⟨l1, e1⟩ := List.getElem?_eq_some_iff.mp h1
  obtain ⟨l2, e2⟩ := List.getElem?_eq_some_iff.mp h2
  rcases Nat.lt_trichotomy i j with h | h | h
  · exact absurd rfl (hpw i j l1 l2 h t (by rw [e1]; exact t1) t (by rw [e2]; exact t2))
  · exact h
  · exact absurd rfl (hpw j i l2 l1 h t (by rw [e2]; exact t2) t (by rw [e1]; exact t1))
theorem part_lt (hp : Part w n xss) {i t : Nat} {x : List Nat} (h1 : xss[i]? = some x) (ht : t ∈ x) : t < n :=
  List.mem_range.mp (hp.perm.mem_iff.mp (List.mem_flatten.mpr ⟨x, List.mem_of_getElem? h1, ht⟩))
theorem part_idx (hp : Part w n xss) {i : Nat} {x : List Nat} (h1 : xss[i]? = some x) : i < w := by
  rw [← hp.len]
  exact (List.getElem?_eq_some_iff.mp h1).1
theorem part_of (hp : Part w n xss) {t : Nat} (ht : t < n) : ∃ (i : Nat) (x : List Nat), xss[i]? = some x ∧ t ∈ x := by
  obtain ⟨x, hx, htx⟩ := List.mem_flatten.mp (hp.perm.mem_iff.mpr (List.mem_range.mpr ht))
  obtain ⟨i, hi⟩ := List.getElem?_of_mem hx
  exact ⟨i, x, hi, htx⟩
def im (xss : List (List Nat)) (q : Nat) : Nat := sprd (xss.map msk) q
theorem im_any (hp : Part w n xss) {q t : Nat} : (im xss q).testBit t = true ↔ ∃ (i : Nat) (x : List Nat), xss[i]? = some x ∧ q.testBit i = true ∧ t ∈ x := sprd_bit hp (g := fun x => x) (fun x _ => List.Sublist.refl x) q t
theorem im_bit (hp : Part w n xss) {q i t : Nat} {x : List Nat} (h1 : xss[i]? = some x) (ht : t ∈ x) : (im xss q).testBit t = true ↔ q.testBit i = true := by
  rw [im_any hp]
  constructor
  · rintro ⟨j, y, h2, h3, h4⟩
    rw [part_uniq hp h1 h2 ht h4]
    exact h3
  · intro h
    exact ⟨i, x, h1, h, ht⟩
theorem im_lt (hp : Part w n xss) (q : Nat) : im xss q < 2 ^ n := lt_of_bits fun t ht => by
  obtain ⟨i, x, h1, _, h3⟩ := (im_any hp).mp ht
  exact part_lt hp h1 h3
theorem head_mem {x : List Nat} (h : x ≠ []) : x.headD 0 ∈ x := by
  cases x with
  | nil => exact absurd rfl h
  | cons a l => exact List.mem_cons_self
theorem last_mem {x : List Nat} (h : x ≠ []) : x.getLastD 0 ∈ x := by
  rcases List.eq_nil_or_concat x with e | ⟨l, a, e⟩
  · exact absurd e h
  · rw [e, List.concat_eq_append]
    simp
theorem one_sub {x : List Nat} {t : Nat} (h : t ∈ x) : [t].Sublist x := List.singleton_sublist.mpr h
theorem fst_any (hp : Part w n xss) {a t : Nat} : (sprd (xss.map fst1) a).testBit t = true ↔ ∃ (i : Nat) (x : List Nat), xss[i]? = some x ∧ a.testBit i = true ∧ t = x.headD 0 := by
  have e : xss.map fst1 = xss.map fun x => msk [x.headD 0] := List.map_congr_left fun x _ => by simp [fst1, msk]
  rw [e, sprd_bit hp (g := fun x => [x.headD 0]) fun x hx => one_sub (head_mem (hp.ne x hx))]
  simp
theorem lst_any (hp : Part w n xss) {a t : Nat} : (sprd (xss.map lst1) a).testBit t = true ↔ ∃ (i : Nat) (x : List Nat), xss[i]? = some x ∧ a.testBit i = true ∧ t = x.getLastD 0 := by
  have e : xss.map lst1 = xss.map fun x => msk [x.getLastD 0] := List.map_congr_left fun x _ => by simp [lst1, msk]
  rw [e, sprd_bit hp (g := fun x => [x.getLastD 0]) fun x hx => one_sub (last_mem (hp.ne x hx))]
  simp
theorem part_get (hp : Part w n xss) {i : Nat} (h : i < w) : ∃ x, xss[i]? = some x := ⟨_, List.getElem?_eq_getElem (by rw [hp.len]; exact h)⟩
theorem fst_sb (hp : Part w n xss) {a q : Nat} (ha : a < 2 ^ w) : Sb (sprd (xss.map fst1) a) (im xss q) ↔ Sb a q := by
  rw [sb_iff, sb_iff]
  constructor
  · intro h i hi
    obtain ⟨x, hx⟩ := part_get hp (bit_lt ha hi)
    have hm := head_mem (hp.ne x (List.mem_of_getElem? hx))
    exact (im_bit hp hx hm).mp (h _ ((fst_any hp).mpr ⟨i, x, hx, hi, rfl⟩))
  · intro h t ht
    obtain ⟨i, x, h1, h2, rfl⟩ := (fst_any hp).mp ht
    exact (im_bit hp h1 (head_mem (hp.ne x (List.mem_of_getElem? h1)))).mpr (h i h2)
theorem lst_sb (hp : Part w n xss) {a q : Nat} (ha : a < 2 ^ w) : Sb (sprd (xss.map lst1) a) (im xss q) ↔ Sb a q := by
  rw [sb_iff, sb_iff]
  constructor
  · intro h i hi
    obtain ⟨x, hx⟩ := part_get hp (bit_lt ha hi)
    have hm := last_mem (hp.ne x (List.mem_of_getElem? hx))
    exact (im_bit hp hx hm).mp (h _ ((lst_any hp).mpr ⟨i, x, hx, hi, rfl⟩))
  · intro h t ht
    obtain ⟨i, x, h1, h2, rfl⟩ := (lst_any hp).mp ht
    exact (im_bit hp h1 (last_mem (hp.ne x (List.mem_of_getElem? h1)))).mpr (h i h2)
theorem pow_sb {t m : Nat} : Sb (2 ^ t) m ↔ m.testBit t = true := by
  rw [sb_iff]
  constructor
  · intro h
    exact h t (Nat.testBit_two_pow_self ..)
  · intro h i hi
    rw [Nat.testBit_two_pow] at hi
    rw [← of_decide_eq_true hi]
    exact h
theorem mem_cyc {x : List Nat} {r : Ru} : r ∈ cyc x ↔ 1 < x.length ∧ ∃ i, i < x.length ∧ r = (2 ^ x.getD i 0, 2 ^ x.getD ((i + 1) % x.length) 0) := by
  unfold cyc
  rw [List.mem_map]
  constructor
  · rintro ⟨i, h1, rfl⟩
    rw [List.mem_range] at h1
    by_cases h : 1 < x.length
    · rw [if_pos (decide_eq_true h)] at h1
      exact ⟨h, i, h1, rfl⟩
    · rw [if_neg (by simpa using h)] at h1
      exact absurd h1 (by simp)
  · rintro ⟨h, i, h1, rfl⟩
    exact ⟨i, by rw [List.mem_range, if_pos (decide_eq_true h)]; exact h1, rfl⟩
theorem getD_mem {x : List Nat} {i : Nat} (h : i < x.length) : x.getD i 0 ∈ x := by
  rw [List.getD_eq_getElem?_getD, List.getElem?_eq_getElem h]
  exact List.getElem_mem h
variable {rs rs0 : List Ru}
theorem mem_blw0 (hpm : rs.Perm (blw0 xss rs0)) {r : Ru} : r ∈ rs ↔ (∃ r0 ∈ rs0, r = (sprd (xss.map fst1) r0.1, sprd (xss.map lst1) r0.2)) ∨ ∃ x ∈ xss, r ∈ cyc x := by
  rw [hpm.mem_iff]
  unfold blw0
  rw [List.mem_append, List.mem_map, List.mem_flatMap]
  constructor
  · rintro (⟨r0, h1, h2⟩ | h)
    · exact .inl ⟨r0, h1, h2.symm⟩
    · exact .inr h
  · rintro (⟨r0, h1, h2⟩ | h)
    · exact .inl ⟨r0, h1, h2.symm⟩
    · exact .inr h
theorem im_kept (hp : Part w n xss) (hpm : rs.Perm (blw0 xss rs0)) (ho : okR w rs0) (q : Nat) : kept rs (im xss q) = true ↔ kept rs0 q = true := by
  rw [kept_iff, kept_iff]
  constructor
  · intro h r hr hs
    have := h _ ((mem_blw0 hpm).mpr (.inl ⟨r, hr, rfl⟩)) ((fst_sb hp (ho r hr).1).mpr hs)
    exact (lst_sb hp (ho r hr).2).mp this
  · intro h r hr
    rcases (mem_blw0 hpm).mp hr with ⟨r0, h0, rfl⟩ | ⟨x, hx, hc⟩
    · intro hs
      exact (lst_sb hp (ho r0 h0).2).mpr (h r0 h0 ((fst_sb hp (ho r0 h0).1).mp hs))
    · obtain ⟨hl, i, hi, rfl⟩ := mem_cyc.mp hc
      obtain ⟨j, hj⟩ := List.getElem?_of_mem hx
      rw [pow_sb, pow_sb, im_bit hp hj (getD_mem hi), im_bit hp hj (getD_mem (Nat.mod_lt _ (by omega)))]
      exact fun z => z
/-- along a round, all or none -/
theorem round_all {x : List Nat} {m : Nat} (h : ∀ r ∈ cyc x, Sb r.1 m → Sb r.2 m) {s t : Nat} (hs : s ∈ x) (ht : t ∈ x) (hm : m.testBit s = true) : m.testBit t = true := by
  obtain ⟨i, hi⟩ := List.getElem?_of_mem hs
  obtain ⟨j, hj⟩ := List.getElem?_of_mem ht
  obtain ⟨li, ei⟩ := List.getElem?_eq_some_iff.mp hi
  obtain ⟨lj, ej⟩ := List.getElem?_eq_some_iff.mp hj
  have gi : x.getD i 0 = s := by rw [List.getD_eq_getElem?_getD, hi]; rfl
  have gj : x.getD j 0 = t := by rw [List.getD_eq_getElem?_getD, hj]; rfl
  by_cases hl : 1 < x.length
  · have step : ∀ k, m.testBit (x.getD ((i + k) % x.length) 0) = true := by
      intro k
      induction k with
      | zero => rw [Nat.add_zero, Nat.mod_eq_of_lt li, gi]; exact hm
      | succ k ih =>
        have hlt : (i + k) % x.length < x.length := Nat.mod_lt _ (by omega)
        have := h _ (mem_cyc.mpr ⟨hl, _, hlt, rfl⟩) (pow_sb.mpr ih)
        have h2 := pow_sb.mp this
        rwa [Nat.mod_add_mod, Nat.add_assoc] at h2
    have := step (x.length - i + j)
    rw [show i + (x.length - i + j) = j + x.length by omega, Nat.add_mod_right, Nat.mod_eq_of_lt lj, gj] at this
    exact this
  · have : i = j := by omega
    subst this
    rw [hi] at hj
    rw [← Option.some.inj hj]
    exact hm
theorem kept_im (hp : Part w n xss) (hpm : rs.Perm (blw0 xss rs0)) {m : Nat} (hm : m < 2 ^ n) (hk : kept rs m = true) : ∃ q, q < 2 ^ w ∧ m = im xss q := by
  let p : Nat → Bool := fun i => m.testBit ((xss.getD i []).headD 0)
  refine ⟨(List.range w).foldl (fun acc t => if p t = true then acc ||| 2 ^ t else acc) 0, ?_, ?_⟩
  · refine lt_of_bits fun i hi => ?_
    rw [fold_or] at hi
    rcases hi with z | ⟨z, _⟩
    · simp at z
    · exact List.mem_range.mp z
  · refine eq_of_bits fun t => ?_
    have hq : ∀ i x, xss[i]? = some x → (((List.range w).foldl (fun acc t => if p t = true then acc ||| 2 ^ t else acc) 0).testBit i = true ↔ m.testBit (x.headD 0) = true) := fun i x hx => by
      rw [fold_or]
      have hg : xss.getD i [] = x := by rw [List.getD_eq_getElem?_getD, hx]; rfl
      constructor
      · rintro (z | ⟨_, z⟩)
        · simp at z
        · have : m.testBit ((xss.getD i []).headD 0) = true := z
          rwa [hg] at this
      · intro z
        refine .inr ⟨List.mem_range.mpr (part_idx hp hx), ?_⟩
        show m.testBit ((xss.getD i []).headD 0) = true
        rw [hg]
        exact z
    have hr : ∀ x ∈ xss, ∀ r ∈ cyc x, Sb r.1 m → Sb r.2 m := fun x hx r hr => kept_iff.mp hk r ((mem_blw0 hpm).mpr (.inr ⟨x, hx, hr⟩))
    rw [im_any hp]
    constructor
    · intro ht
      obtain ⟨i, x, h1, h2⟩ := part_of hp (bit_lt hm ht)
      have hx := List.mem_of_getElem? h1
      exact ⟨i, x, h1, (hq i x h1).mpr (round_all (hr x hx) h2 (head_mem (hp.ne x hx)) ht), h2⟩
    · rintro ⟨i, x, h1, h2, h3⟩
      have hx := List.mem_of_getElem? h1
      exact round_all (hr x hx) (head_mem (hp.ne x hx)) h3 ((hq i x h1).mp h2)
theorem im_inj (hp : Part w n xss) {a b : Nat} (ha : a < 2 ^ w) (hb : b < 2 ^ w) (h : im xss a = im xss b) : a = b := by
  refine eq_of_bits fun i => ?_
  by_cases hi : i < w
  · obtain ⟨x, hx⟩ := part_get hp hi
    have hm := head_mem (hp.ne x (List.mem_of_getElem? hx))
    rw [← im_bit hp hx hm, ← im_bit hp hx hm, h]
  · constructor
    · intro z
      exact absurd (bit_lt ha z) hi
    · intro z
      exact absurd (bit_lt hb z) hi
theorem last_max {l : List Nat} (hp : l.Pairwise (· ≤ ·)) {M : Nat} (hM : M ∈ l) (h : ∀ x ∈ l, x ≤ M) : l.getLastD 0 = M := by
  rcases List.eq_nil_or_concat l with e | ⟨k, a, e⟩
  · rw [e] at hM
    cases hM
  · rw [List.concat_eq_append] at e
    subst e
    rw [List.pairwise_append] at hp
    have ha := h a (by simp)
    have e2 : (k ++ [a]).getLastD 0 = a := by simp
    rw [e2]
    rcases List.mem_append.mp hM with z | z
    · have := hp.2.2 M z a List.mem_cons_self
      omega
    · exact (show M = a by simpa using z).symm
theorem blown_good (hw : w ≤ 5) (hl : rs0.length ≤ 8) (ho : okR w rs0) (hn : n ≤ 10) (hp : Part w n xss) (hpm : rs.Perm (blw0 xss rs0)) : Bk n rs ∧ Fam n rs (srtN ((cl0 w rs0).map (sprd (xss.map msk)))) := by
  have h : Bk n rs := by
    refine ⟨hn, ?_, fun r hr => ?_⟩
    · rw [hpm.length_eq]
      unfold blw0
      rw [List.length_append, List.length_map]
      have := cycs_len xss
      rw [hp.perm.length_eq, List.length_range] at this
      omega
    · rcases (mem_blw0 hpm).mp hr with ⟨r0, h0, rfl⟩ | ⟨x, hx, hc⟩
      · refine ⟨lt_of_bits fun t ht => ?_, lt_of_bits fun t ht => ?_⟩
        · obtain ⟨i, x, h1, _, rfl⟩ := (fst_any hp).mp ht
          exact part_lt hp h1 (head_mem (hp.ne x (List.mem_of_getElem? h1)))
        · obtain ⟨i, x, h1, _, rfl⟩ := (lst_any hp).mp ht
          exact part_lt hp h1 (last_mem (hp.ne x (List.mem_of_getElem? h1)))
      · obtain ⟨hl, i, hi, rfl⟩ := mem_cyc.mp hc
        obtain ⟨j, hj⟩ := List.getElem?_of_mem hx
        exact ⟨Nat.pow_lt_pow_right (by decide) (part_lt hp hj (getD_mem hi)), Nat.pow_lt_pow_right (by decide) (part_lt hp hj (getD_mem (Nat.mod_lt _ (by omega))))⟩
  have hperm : (srtN ((cl0 w rs0).map (im xss))).Perm ((cl0 w rs0).map (im xss)) := List.mergeSort_perm _ _
  have hmem : ∀ m, m ∈ srtN ((cl0 w rs0).map (im xss)) ↔ m ∈ closed n rs := fun m => by
    rw [hperm.mem_iff, List.mem_map, mem_closed]
    constructor
    · rintro ⟨q, hq, rfl⟩
      exact ⟨im_lt hp q, (im_kept hp hpm ho q).mpr (List.mem_filter.mp hq).2⟩
    · rintro ⟨h1, h2⟩
      obtain ⟨q, q1, rfl⟩ := kept_im hp hpm h1 h2
      exact ⟨q, List.mem_filter.mpr ⟨List.mem_range.mpr q1, (im_kept hp hpm ho q).mp h2⟩, rfl⟩
  have hcl : ∀ q ∈ cl0 w rs0, q < 2 ^ w := fun q hq => List.mem_range.mp (List.mem_filter.mp hq).1
  refine ⟨h, ?_, hmem, ?_, ?_⟩
  · refine List.Nodup.perm ?_ hperm.symm
    rw [List.Nodup, List.pairwise_map]
    exact List.Pairwise.imp_of_mem (fun {a b} ha hb hne e => hne (im_inj hp (hcl a ha) (hcl b hb) e)) (List.Pairwise.filter _ List.nodup_range : (cl0 w rs0).Nodup)
  · refine last_max (srtN_pw _) ((hmem _).mpr (whole_closed h)) fun x hx => ?_
    have := (mem_closed.mp ((hmem x).mp hx)).1
    omega
  · rw [show (srtN ((cl0 w rs0).map (sprd (xss.map msk)))).length = ((cl0 w rs0).map (im xss)).length from hperm.length_eq, List.length_map]
    refine Nat.le_trans (List.length_filter_le ..) ?_
    rw [List.length_range]
    exact Nat.le_trans (Nat.pow_le_pow_right (show 0 < 2 by decide) hw) (by decide)
end
theorem all_good : AllGood := fun n rs fam h => by
  rcases h with ⟨h1, h2, h3, rfl⟩ | ⟨w, rs0, xss, h1, h2, h3, h4, h5, h6, rfl⟩
  · obtain ⟨a, b⟩ := plain_good h1 h2 h3
    exact good_of a b
  · obtain ⟨a, b⟩ := blown_good h1 h2 h3 h4 h5 h6
    exact good_of a b
end Mt

set_option maxHeartbeats 0
namespace Mt
open PySem PySem.Spec PyProof.Rows L2
/-! ### the head: facts by names, the run -/
def d_bits_of : He.DefD := ⟨("bits_of", none), "bits_of", "bits_of", defArgs s_bits_of, defBody s_bits_of, defScope s_bits_of, [], []⟩
def d_lot_of : He.DefD := ⟨("lot_of", none), "lot_of", "lot_of", defArgs s_lot_of, defBody s_lot_of, defScope s_lot_of, [], []⟩
def d_lot_key : He.DefD := ⟨("lot_key", none), "lot_key", "lot_key", defArgs s_lot_key, defBody s_lot_key, defScope s_lot_key, [], []⟩
def d_bits_key : He.DefD := ⟨("bits_key", none), "bits_key", "bits_key", defArgs s_bits_key, defBody s_bits_key, defScope s_bits_key, [], []⟩
def d_ordered : He.DefD := ⟨("ordered", none), "ordered", "ordered", defArgs s_ordered, defBody s_ordered, defScope s_ordered, [], []⟩
def d_rule_bits : He.DefD := ⟨("rule_bits", none), "rule_bits", "rule_bits", defArgs s_rule_bits, defBody s_rule_bits, defScope s_rule_bits, [], []⟩
def d_is_kept : He.DefD := ⟨("is_kept", none), "is_kept", "is_kept", defArgs s_is_kept, defBody s_is_kept, defScope s_is_kept, [], []⟩
def d_bits_round : He.DefD := ⟨("bits_round", none), "bits_round", "bits_round", defArgs s_bits_round, defBody s_bits_round, defScope s_bits_round, [], []⟩
def d_bits_closure : He.DefD := ⟨("bits_closure", none), "bits_closure", "bits_closure", defArgs s_bits_closure, defBody s_bits_closure, defScope s_bits_closure, [], []⟩
def d_closed_bits : He.DefD := ⟨("closed_bits", none), "closed_bits", "closed_bits", defArgs s_closed_bits, defBody s_closed_bits, defScope s_closed_bits, [], []⟩
def d_closure_in : He.DefD := ⟨("closure_in", none), "closure_in", "closure_in", defArgs s_closure_in, defBody s_closure_in, defScope s_closure_in, [], []⟩
def d_closure : He.DefD := ⟨("closure", none), "closure", "closure", defArgs s_closure, defBody s_closure, defScope s_closure, [], []⟩
def d_is_within : He.DefD := ⟨("is_within", none), "is_within", "is_within", defArgs s_is_within, defBody s_is_within, defScope s_is_within, [], []⟩
def d_bits_rule : He.DefD := ⟨("bits_rule", none), "bits_rule", "bits_rule", defArgs s_bits_rule, defBody s_bits_rule, defScope s_bits_rule, [], []⟩
def d_things_made_first : He.DefD := ⟨("things_made_first", none), "things_made_first", "things_made_first", defArgs s_things_made_first, defBody s_things_made_first, defScope s_things_made_first, [], []⟩
def d_direct : He.DefD := ⟨("direct", none), "direct", "direct", defArgs s_direct, defBody s_direct, defScope s_direct, [], []⟩
def d_after_a_round : He.DefD := ⟨("after_a_round", none), "after_a_round", "after_a_round", defArgs s_after_a_round, defBody s_after_a_round, defScope s_after_a_round, [], []⟩
def d_first_far : He.DefD := ⟨("first_far", none), "first_far", "first_far", defArgs s_first_far, defBody s_first_far, defScope s_first_far, [], []⟩
def d_whole_bits : He.DefD := ⟨("whole_bits", none), "whole_bits", "whole_bits", defArgs s_whole_bits, defBody s_whole_bits, defScope s_whole_bits, [], []⟩
def d_meet_above : He.DefD := ⟨("meet_above", none), "meet_above", "meet_above", defArgs s_meet_above, defBody s_meet_above, defScope s_meet_above, [], []⟩
def d_irreducible_bits : He.DefD := ⟨("irreducible_bits", none), "irreducible_bits", "irreducible_bits", defArgs s_irreducible_bits, defBody s_irreducible_bits, defScope s_irreducible_bits, [], []⟩
def d_table_made : He.DefD := ⟨("table_made", none), "table_made", "table_made", defArgs s_table_made, defBody s_table_made, defScope s_table_made, [], []⟩
def d_need_closed : He.DefD := ⟨("need_closed", none), "need_closed", "need_closed", defArgs s_need_closed, defBody s_need_closed, defScope s_need_closed, [], []⟩
def d_table_of : He.DefD := ⟨("table_of", none), "table_of", "table_of", defArgs s_table_of, defBody s_table_of, defScope s_table_of, [], []⟩
def d_greatest_bits : He.DefD := ⟨("greatest_bits", none), "greatest_bits", "greatest_bits", defArgs s_greatest_bits, defBody s_greatest_bits, defScope s_greatest_bits, [], []⟩
def d_without_bits : He.DefD := ⟨("without_bits", none), "without_bits", "without_bits", defArgs s_without_bits, defBody s_without_bits, defScope s_without_bits, [], []⟩
def d_greatest_without : He.DefD := ⟨("greatest_without", none), "greatest_without", "greatest_without", defArgs s_greatest_without, defBody s_greatest_without, defScope s_greatest_without, [], []⟩
def d_barred : He.DefD := ⟨("barred", none), "barred", "barred", defArgs s_barred, defBody s_barred, defScope s_barred, [], []⟩
def d_least_bits : He.DefD := ⟨("least_bits", none), "least_bits", "least_bits", defArgs s_least_bits, defBody s_least_bits, defScope s_least_bits, [], []⟩
def d_hit_bits : He.DefD := ⟨("hit_bits", none), "hit_bits", "hit_bits", defArgs s_hit_bits, defBody s_hit_bits, defScope s_hit_bits, [], []⟩
def d_hits : He.DefD := ⟨("hits", none), "hits", "hits", defArgs s_hits, defBody s_hits, defScope s_hits, [], []⟩
def d_rules_for : He.DefD := ⟨("rules_for", none), "rules_for", "rules_for", defArgs s_rules_for, defBody s_rules_for, defScope s_rules_for, [], []⟩
def d_things_in : He.DefD := ⟨("things_in", none), "things_in", "things_in", defArgs s_things_in, defBody s_things_in, defScope s_things_in, [], []⟩
def d_lots_within : He.DefD := ⟨("lots_within", none), "lots_within", "lots_within", defArgs s_lots_within, defBody s_lots_within, defScope s_lots_within, [], []⟩
def d_closures_of : He.DefD := ⟨("closures_of", none), "closures_of", "closures_of", defArgs s_closures_of, defBody s_closures_of, defScope s_closures_of, [], []⟩
def d_spare_by : He.DefD := ⟨("spare_by", none), "spare_by", "spare_by", defArgs s_spare_by, defBody s_spare_by, defScope s_spare_by, [], []⟩
def d_below_closed : He.DefD := ⟨("below_closed", none), "below_closed", "below_closed", defArgs s_below_closed, defBody s_below_closed, defScope s_below_closed, [], []⟩
def d_makers_by : He.DefD := ⟨("makers_by", none), "makers_by", "makers_by", defArgs s_makers_by, defBody s_makers_by, defScope s_makers_by, [], []⟩
def d_makers_with : He.DefD := ⟨("makers_with", none), "makers_with", "makers_with", defArgs s_makers_with, defBody s_makers_with, defScope s_makers_with, [], []⟩
def d_all_things : He.DefD := ⟨("all_things", none), "all_things", "all_things", defArgs s_all_things, defBody s_all_things, defScope s_all_things, [], []⟩
def d_makers : He.DefD := ⟨("makers", none), "makers", "makers", defArgs s_makers, defBody s_makers, defScope s_makers, [], []⟩
def d_keys : He.DefD := ⟨("keys", none), "keys", "keys", defArgs s_keys, defBody s_keys, defScope s_keys, [], []⟩
def d_next_below : He.DefD := ⟨("next_below", none), "next_below", "next_below", defArgs s_next_below, defBody s_next_below, defScope s_next_below, [], []⟩
def d_nonkeys : He.DefD := ⟨("nonkeys", none), "nonkeys", "nonkeys", defArgs s_nonkeys, defBody s_nonkeys, defScope s_nonkeys, [], []⟩
def d_w_spring : He.DefD := ⟨("_law_spring", none), "_law_spring", "_law_spring", defArgs s_w_spring, defBody s_w_spring, defScope s_w_spring, [], []⟩
def d_w_draw : He.DefD := ⟨("_law_draw", none), "_law_draw", "_law_draw", defArgs s_w_draw, defBody s_w_draw, defScope s_w_draw, [], []⟩
def d_w_pick : He.DefD := ⟨("_law_pick", none), "_law_pick", "_law_pick", defArgs s_w_pick, defBody s_w_pick, defScope s_w_pick, [], []⟩
def d_w_mixed : He.DefD := ⟨("_law_mixed", none), "_law_mixed", "_law_mixed", defArgs s_w_mixed, defBody s_w_mixed, defScope s_w_mixed, [], []⟩
def d_w_some : He.DefD := ⟨("_law_some", none), "_law_some", "_law_some", defArgs s_w_some, defBody s_w_some, defScope s_w_some, [], []⟩
def d_w_lot : He.DefD := ⟨("_law_lot", none), "_law_lot", "_law_lot", defArgs s_w_lot, defBody s_w_lot, defScope s_w_lot, [], []⟩
def d_w_mask : He.DefD := ⟨("_law_mask", none), "_law_mask", "_law_mask", defArgs s_w_mask, defBody s_w_mask, defScope s_w_mask, [], []⟩
def d_w_rank : He.DefD := ⟨("_law_rank", none), "_law_rank", "_law_rank", defArgs s_w_rank, defBody s_w_rank, defScope s_w_rank, [], []⟩
def d_w_lots : He.DefD := ⟨("_law_lots", none), "_law_lots", "_law_lots", defArgs s_w_lots, defBody s_w_lots, defScope s_w_lots, [], []⟩
def d_w_needs : He.DefD := ⟨("_law_needs", none), "_law_needs", "_law_needs", defArgs s_w_needs, defBody s_w_needs, defScope s_w_needs, [], []⟩
def d_w_closed : He.DefD := ⟨("_law_closed", none), "_law_closed", "_law_closed", defArgs s_w_closed, defBody s_w_closed, defScope s_w_closed, [], []⟩
def d_w_tome : He.DefD := ⟨("_law_tome", none), "_law_tome", "_law_tome", defArgs s_w_tome, defBody s_w_tome, defScope s_w_tome, [], []⟩
def d_w_spread : He.DefD := ⟨("_law_spread", none), "_law_spread", "_law_spread", defArgs s_w_spread, defBody s_w_spread, defScope s_w_spread, [], []⟩
def d_w_blown : He.DefD := ⟨("_law_blown", none), "_law_blown", "_law_blown", defArgs s_w_blown, defBody s_w_blown, defScope s_w_blown, [], []⟩
def d_w_book : He.DefD := ⟨("_law_book", none), "_law_book", "_law_book", defArgs s_w_book, defBody s_w_book, defScope s_w_book, [], []⟩
def d_w_greatest : He.DefD := ⟨("_law_greatest", none), "_law_greatest", "_law_greatest", defArgs s_w_greatest, defBody s_w_greatest, defScope s_w_greatest, [], []⟩
def d_w_by_steps : He.DefD := ⟨("_law_by_steps", none), "_law_by_steps", "_law_by_steps", defArgs s_w_by_steps, defBody s_w_by_steps, defScope s_w_by_steps, [], []⟩
def d_w_is_found : He.DefD := ⟨("_law_is_found", none), "_law_is_found", "_law_is_found", defArgs s_w_is_found, defBody s_w_is_found, defScope s_w_is_found, [], []⟩
def d_w_is_hit : He.DefD := ⟨("_law_is_hit", none), "_law_is_hit", "_law_is_hit", defArgs s_w_is_hit, defBody s_w_is_hit, defScope s_w_is_hit, [], []⟩
def d_w_at_once : He.DefD := ⟨("_law_at_once", none), "_law_at_once", "_law_at_once", defArgs s_w_at_once, defBody s_w_at_once, defScope s_w_at_once, [], []⟩
def d_w_by_closures : He.DefD := ⟨("_law_by_closures", none), "_law_by_closures", "_law_by_closures", defArgs s_w_by_closures, defBody s_w_by_closures, defScope s_w_by_closures, [], []⟩
def d_w_is_key : He.DefD := ⟨("_law_is_key", none), "_law_is_key", "_law_is_key", defArgs s_w_is_key, defBody s_w_is_key, defScope s_w_is_key, [], []⟩
def d_law : He.DefD := ⟨("law", none), "law", "law", defArgs s_law, defBody s_law, defScope s_law, [], []⟩
def fn : List He.DefD := [d_bits_of, d_lot_of, d_lot_key, d_bits_key, d_ordered, d_rule_bits, d_is_kept, d_bits_round, d_bits_closure, d_closed_bits, d_closure_in, d_closure, d_is_within, d_bits_rule, d_things_made_first, d_direct, d_after_a_round, d_first_far, d_whole_bits, d_meet_above, d_irreducible_bits, d_table_made, d_need_closed, d_table_of, d_greatest_bits, d_without_bits, d_greatest_without, d_barred, d_least_bits, d_hit_bits, d_hits, d_rules_for, d_things_in, d_lots_within, d_closures_of, d_spare_by, d_below_closed, d_makers_by, d_makers_with, d_all_things, d_makers, d_keys, d_next_below, d_nonkeys, d_w_spring, d_w_draw, d_w_pick, d_w_mixed, d_w_some, d_w_lot, d_w_mask, d_w_rank, d_w_lots, d_w_needs, d_w_closed, d_w_tome, d_w_spread, d_w_blown, d_w_book, d_w_greatest, d_w_by_steps, d_w_is_found, d_w_is_hit, d_w_at_once, d_w_by_closures, d_w_is_key, d_law]
def fa : List He.Fa := [.glo "bits_of", .glo "lot_of", .glo "lot_key", .glo "bits_key", .glo "ordered", .glo "rule_bits", .glo "is_kept", .glo "bits_round", .glo "bits_closure", .glo "closed_bits", .glo "closure_in", .glo "closure", .glo "is_within", .glo "bits_rule", .glo "things_made_first", .glo "direct", .glo "after_a_round", .glo "first_far", .glo "whole_bits", .glo "meet_above", .glo "irreducible_bits", .glo "table_made", .glo "need_closed", .glo "table_of", .glo "greatest_bits", .glo "without_bits", .glo "greatest_without", .glo "barred", .glo "least_bits", .glo "hit_bits", .glo "hits", .glo "rules_for", .glo "things_in", .glo "lots_within", .glo "closures_of", .glo "spare_by", .glo "below_closed", .glo "makers_by", .glo "makers_with", .glo "all_things", .glo "makers", .glo "keys", .glo "next_below", .glo "nonkeys", .glo "_law_spring", .glo "_law_draw", .glo "_law_pick", .glo "_law_mixed", .glo "_law_some", .glo "_law_lot", .glo "_law_mask", .glo "_law_rank", .glo "_law_lots", .glo "_law_needs", .glo "_law_closed", .glo "_law_tome", .glo "_law_spread", .glo "_law_blown", .glo "_law_book", .glo "_law_greatest", .glo "_law_by_steps", .glo "_law_is_found", .glo "_law_is_hit", .glo "_law_at_once", .glo "_law_by_closures", .glo "_law_is_key", .glo "law", .int "MAX_THINGS" 10, .int "MAX_ROWS" 60, .free "abs", .free "all", .free "any", .free "dict", .free "enumerate", .free "int", .free "len", .free "list", .free "range", .free "repr", .free "sorted", .free "sum", .free "tuple"]
def loose0 : List Str := ["MAX_THINGS", "MAX_ROWS", "MeetError", "TooMany", "NotClosed", "bits_of", "lot_of", "lot_key", "bits_key", "ordered", "rule_bits", "is_kept", "bits_round", "bits_closure", "closed_bits", "closure_in", "closure", "is_within", "bits_rule", "things_made_first", "direct", "after_a_round", "first_far", "whole_bits", "meet_above", "irreducible_bits", "table_made", "need_closed", "table_of", "greatest_bits"]
def loose1 : List Str := ["without_bits", "greatest_without", "barred", "least_bits", "hit_bits", "hits", "rules_for", "things_in", "lots_within", "closures_of", "spare_by", "below_closed", "makers_by", "makers_with", "all_things", "makers", "keys", "next_below", "nonkeys", "_law_spring", "_law_draw", "_law_pick", "_law_mixed", "_law_some", "_law_lot", "_law_mask", "_law_rank", "_law_lots", "_law_needs", "_law_closed"]
def loose2 : List Str := ["_law_tome", "_law_spread", "_law_blown", "_law_book", "_law_greatest", "_law_by_steps", "_law_is_found", "_law_is_hit", "_law_at_once", "_law_by_closures", "_law_is_key"]
def loose : List Str := loose0 ++ loose1 ++ loose2
abbrev lawRow : PySem.W.OpenRow := PySem.W.OpenLaw.row PySem.Challenge.rw_meetlots_k36_whole_rules_and_greatest_lo
abbrev hk : PySem.W.Hook := He.hookD 4 fa fn
def ob (s : PySem.W.SharedT) : He.AlD := He.obsDG 4 fa fn (HandSHeadRun.getT s)
theorem ob_eq (s : PySem.W.SharedT) : ob s = hk.obs s.abs := He.obsDG_eq (HandSHeadRun.getT_eq s)
theorem run (w : World) : HandSHeadRun.RunEq lawRow (PySem.W.view lawRow.prog [78]) hk ob 4000 loose w := by
  intro os
  kernel_rfl
end Mt

set_option maxHeartbeats 4000000
namespace Mt
open PySem PySem.Spec PyProof.Rows L2
/-! ### each def, by what the head says of it -/
section
variable {P : Program} {w : World} {K : PySem.W.Frag} {mg : Str → Option Value} {base : Heap} {x qual p1 p2 : Str} {st : Stmt} {f : Addr} {fd : FuncData} {ps : List Str} {k : Nat} {sp : Sp}
theorem fun_of (F : FunD K x qual (defArgs st) (defBody st) (defScope st) [] [] f fd) : Fun K x qual st f fd := by
  obtain ⟨oc, od, dV, kV, doc, pm, an, cdv, ct, osl, e, lk, hcd, hD, _⟩ := F.ex
  rcases hD with ⟨_, z⟩ | ⟨z, _⟩
  · subst z
    exact ⟨⟨oc, od, kV, doc, pm, an, cdv, ct, osl, e, lk, hcd⟩, F.kp⟩
  · exact absurd rfl z
theorem mkP (A : At K mg x ps f fd) (ok : FnOk P w K mg base CX0 k f fd ps sp) : FnP P w K mg base k x ps sp := ⟨f, fd, A, ok⟩
theorem mkPG (A : At K mg x ps f fd) (ok : FnG P w K mg base k f fd ps sp) : FnPG P w K mg base k x ps sp := ⟨f, fd, A, ok⟩
theorem keyB {params : Arguments} {body : List Stmt} {scope : Scope} (F : FunD K x qual params body scope [] [] f fd)
    (h : ∀ (kV doc pm : Value) (an : Option Addr) (cdv ct : Value) (u1 u2 : Value), bindArgs (PySem.W.fnOf x qual params body scope .none kV doc pm an cdv ct) ⟨[], [(p2, u1), (p1, u2)]⟩ = pure [(p1, u2), (p2, u1)]) : AtK mg x p1 p2 fd := by
  obtain ⟨oc, od, dV, kV, doc, pm, an, cdv, ct, osl, rfl, lk, hcd, hD, _⟩ := F.ex
  rcases hD with ⟨_, rfl⟩ | ⟨z, _⟩
  · exact ⟨fun s u1 u2 => .of_eq (h kV doc pm an cdv ct u1 u2)⟩
  · exact absurd rfl z
theorem mkK (A : At K mg x [p1, p2] f fd) (B : AtK mg x p1 p2 fd) (ok : FnOk P w K mg base CX0 k f fd [p1, p2] sp) : FnK P w K mg base k x p1 p2 sp := ⟨f, fd, A, B, ok⟩
end
theorem facts {P : Program} {w : World} {K : PySem.W.Frag} {h : Heap} {mg : Str → Option Value} {f : Addr} (X : K.In h) (G : h.Ns mainGlobals mg) (hfa : mg ("law" : Str) = some (.ref f)) (c : He.SaysD fa fn K) :
    ∃ fd : FuncData, (∀ (s : Shared) (v : Value), BindsTo s fd ⟨[v], []⟩ [("_law_script", v)]) ∧ ∀ base : Heap, K.In base → base.Ns mainGlobals mg → FnG P w K mg base 11 f fd ["_law_script"] (spP K R_law) := by
  have T : Mg mg := ⟨He.free_ok X G (c.fact 81 (f := .free "tuple") rfl), He.free_ok X G (c.fact 77 (f := .free "range") rfl), He.free_ok X G (c.fact 75 (f := .free "len") rfl), He.free_ok X G (c.fact 79 (f := .free "sorted") rfl), He.free_ok X G (c.fact 76 (f := .free "list") rfl), He.free_ok X G (c.fact 72 (f := .free "dict") rfl), He.free_ok X G (c.fact 71 (f := .free "any") rfl), He.free_ok X G (c.fact 70 (f := .free "all") rfl), He.free_ok X G (c.fact 80 (f := .free "sum") rfl), He.free_ok X G (c.fact 78 (f := .free "repr") rfl), He.free_ok X G (c.fact 69 (f := .free "abs") rfl), He.free_ok X G (c.fact 74 (f := .free "int") rfl), He.free_ok X G (c.fact 73 (f := .free "enumerate") rfl), He.int_ok X G (c.fact 67 (f := .int "MAX_THINGS" 10) rfl), He.int_ok X G (c.fact 68 (f := .int "MAX_ROWS" 60) rfl)⟩
  obtain ⟨fd_w_spring, D_w_spring⟩ := c.def_ 44 (d := d_w_spring) rfl
  have g_w_spring := He.glo_ok X G (c.fact 44 (f := .glo "_law_spring") rfl)
  obtain ⟨fd_w_draw, D_w_draw⟩ := c.def_ 45 (d := d_w_draw) rfl
  have g_w_draw := He.glo_ok X G (c.fact 45 (f := .glo "_law_draw") rfl)
  obtain ⟨fd_w_pick, D_w_pick⟩ := c.def_ 46 (d := d_w_pick) rfl
  have g_w_pick := He.glo_ok X G (c.fact 46 (f := .glo "_law_pick") rfl)
  obtain ⟨fd_w_some, D_w_some⟩ := c.def_ 48 (d := d_w_some) rfl
  have g_w_some := He.glo_ok X G (c.fact 48 (f := .glo "_law_some") rfl)
  obtain ⟨fd_w_needs, D_w_needs⟩ := c.def_ 53 (d := d_w_needs) rfl
  have g_w_needs := He.glo_ok X G (c.fact 53 (f := .glo "_law_needs") rfl)
  obtain ⟨fd_w_closed, D_w_closed⟩ := c.def_ 54 (d := d_w_closed) rfl
  have g_w_closed := He.glo_ok X G (c.fact 54 (f := .glo "_law_closed") rfl)
  obtain ⟨fd_w_lot, D_w_lot⟩ := c.def_ 49 (d := d_w_lot) rfl
  have g_w_lot := He.glo_ok X G (c.fact 49 (f := .glo "_law_lot") rfl)
  obtain ⟨fd_w_tome, D_w_tome⟩ := c.def_ 55 (d := d_w_tome) rfl
  have g_w_tome := He.glo_ok X G (c.fact 55 (f := .glo "_law_tome") rfl)
  obtain ⟨fd_w_mixed, D_w_mixed⟩ := c.def_ 47 (d := d_w_mixed) rfl
  have g_w_mixed := He.glo_ok X G (c.fact 47 (f := .glo "_law_mixed") rfl)
  obtain ⟨fd_w_spread, D_w_spread⟩ := c.def_ 56 (d := d_w_spread) rfl
  have g_w_spread := He.glo_ok X G (c.fact 56 (f := .glo "_law_spread") rfl)
  obtain ⟨fd_w_blown, D_w_blown⟩ := c.def_ 57 (d := d_w_blown) rfl
  have g_w_blown := He.glo_ok X G (c.fact 57 (f := .glo "_law_blown") rfl)
  obtain ⟨fd_w_book, D_w_book⟩ := c.def_ 58 (d := d_w_book) rfl
  have g_w_book := He.glo_ok X G (c.fact 58 (f := .glo "_law_book") rfl)
  obtain ⟨fd_greatest_bits, D_greatest_bits⟩ := c.def_ 24 (d := d_greatest_bits) rfl
  have g_greatest_bits := He.glo_ok X G (c.fact 24 (f := .glo "greatest_bits") rfl)
  obtain ⟨fd_bits_of, D_bits_of⟩ := c.def_ 0 (d := d_bits_of) rfl
  have g_bits_of := He.glo_ok X G (c.fact 0 (f := .glo "bits_of") rfl)
  obtain ⟨fd_rule_bits, D_rule_bits⟩ := c.def_ 5 (d := d_rule_bits) rfl
  have g_rule_bits := He.glo_ok X G (c.fact 5 (f := .glo "rule_bits") rfl)
  obtain ⟨fd_is_kept, D_is_kept⟩ := c.def_ 6 (d := d_is_kept) rfl
  have g_is_kept := He.glo_ok X G (c.fact 6 (f := .glo "is_kept") rfl)
  obtain ⟨fd_lot_of, D_lot_of⟩ := c.def_ 1 (d := d_lot_of) rfl
  have g_lot_of := He.glo_ok X G (c.fact 1 (f := .glo "lot_of") rfl)
  obtain ⟨fd_lot_key, D_lot_key⟩ := c.def_ 2 (d := d_lot_key) rfl
  have g_lot_key := He.glo_ok X G (c.fact 2 (f := .glo "lot_key") rfl)
  obtain ⟨fd_bits_key, D_bits_key⟩ := c.def_ 3 (d := d_bits_key) rfl
  have g_bits_key := He.glo_ok X G (c.fact 3 (f := .glo "bits_key") rfl)
  obtain ⟨fd_ordered, D_ordered⟩ := c.def_ 4 (d := d_ordered) rfl
  have g_ordered := He.glo_ok X G (c.fact 4 (f := .glo "ordered") rfl)
  obtain ⟨fd_closed_bits, D_closed_bits⟩ := c.def_ 9 (d := d_closed_bits) rfl
  have g_closed_bits := He.glo_ok X G (c.fact 9 (f := .glo "closed_bits") rfl)
  obtain ⟨fd_without_bits, D_without_bits⟩ := c.def_ 25 (d := d_without_bits) rfl
  have g_without_bits := He.glo_ok X G (c.fact 25 (f := .glo "without_bits") rfl)
  obtain ⟨fd_greatest_without, D_greatest_without⟩ := c.def_ 26 (d := d_greatest_without) rfl
  have g_greatest_without := He.glo_ok X G (c.fact 26 (f := .glo "greatest_without") rfl)
  obtain ⟨fd_whole_bits, D_whole_bits⟩ := c.def_ 18 (d := d_whole_bits) rfl
  have g_whole_bits := He.glo_ok X G (c.fact 18 (f := .glo "whole_bits") rfl)
  obtain ⟨fd_least_bits, D_least_bits⟩ := c.def_ 28 (d := d_least_bits) rfl
  have g_least_bits := He.glo_ok X G (c.fact 28 (f := .glo "least_bits") rfl)
  obtain ⟨fd_hit_bits, D_hit_bits⟩ := c.def_ 29 (d := d_hit_bits) rfl
  have g_hit_bits := He.glo_ok X G (c.fact 29 (f := .glo "hit_bits") rfl)
  obtain ⟨fd_rules_for, D_rules_for⟩ := c.def_ 31 (d := d_rules_for) rfl
  have g_rules_for := He.glo_ok X G (c.fact 31 (f := .glo "rules_for") rfl)
  obtain ⟨fd_w_greatest, D_w_greatest⟩ := c.def_ 59 (d := d_w_greatest) rfl
  have g_w_greatest := He.glo_ok X G (c.fact 59 (f := .glo "_law_greatest") rfl)
  obtain ⟨fd_w_by_steps, D_w_by_steps⟩ := c.def_ 60 (d := d_w_by_steps) rfl
  have g_w_by_steps := He.glo_ok X G (c.fact 60 (f := .glo "_law_by_steps") rfl)
  obtain ⟨fd_w_rank, D_w_rank⟩ := c.def_ 51 (d := d_w_rank) rfl
  have g_w_rank := He.glo_ok X G (c.fact 51 (f := .glo "_law_rank") rfl)
  obtain ⟨fd_w_lots, D_w_lots⟩ := c.def_ 52 (d := d_w_lots) rfl
  have g_w_lots := He.glo_ok X G (c.fact 52 (f := .glo "_law_lots") rfl)
  obtain ⟨fd_w_is_found, D_w_is_found⟩ := c.def_ 61 (d := d_w_is_found) rfl
  have g_w_is_found := He.glo_ok X G (c.fact 61 (f := .glo "_law_is_found") rfl)
  obtain ⟨fd_hits, D_hits⟩ := c.def_ 30 (d := d_hits) rfl
  have g_hits := He.glo_ok X G (c.fact 30 (f := .glo "hits") rfl)
  obtain ⟨fd_w_is_hit, D_w_is_hit⟩ := c.def_ 62 (d := d_w_is_hit) rfl
  have g_w_is_hit := He.glo_ok X G (c.fact 62 (f := .glo "_law_is_hit") rfl)
  obtain ⟨fd_meet_above, D_meet_above⟩ := c.def_ 19 (d := d_meet_above) rfl
  have g_meet_above := He.glo_ok X G (c.fact 19 (f := .glo "meet_above") rfl)
  obtain ⟨fd_irreducible_bits, D_irreducible_bits⟩ := c.def_ 20 (d := d_irreducible_bits) rfl
  have g_irreducible_bits := He.glo_ok X G (c.fact 20 (f := .glo "irreducible_bits") rfl)
  obtain ⟨fd_table_made, D_table_made⟩ := c.def_ 21 (d := d_table_made) rfl
  have g_table_made := He.glo_ok X G (c.fact 21 (f := .glo "table_made") rfl)
  obtain ⟨fd_table_of, D_table_of⟩ := c.def_ 23 (d := d_table_of) rfl
  have g_table_of := He.glo_ok X G (c.fact 23 (f := .glo "table_of") rfl)
  obtain ⟨fd_need_closed, D_need_closed⟩ := c.def_ 22 (d := d_need_closed) rfl
  have g_need_closed := He.glo_ok X G (c.fact 22 (f := .glo "need_closed") rfl)
  obtain ⟨fd_barred, D_barred⟩ := c.def_ 27 (d := d_barred) rfl
  have g_barred := He.glo_ok X G (c.fact 27 (f := .glo "barred") rfl)
  obtain ⟨fd_bits_round, D_bits_round⟩ := c.def_ 7 (d := d_bits_round) rfl
  have g_bits_round := He.glo_ok X G (c.fact 7 (f := .glo "bits_round") rfl)
  obtain ⟨fd_bits_closure, D_bits_closure⟩ := c.def_ 8 (d := d_bits_closure) rfl
  have g_bits_closure := He.glo_ok X G (c.fact 8 (f := .glo "bits_closure") rfl)
  obtain ⟨fd_things_made_first, D_things_made_first⟩ := c.def_ 14 (d := d_things_made_first) rfl
  have g_things_made_first := He.glo_ok X G (c.fact 14 (f := .glo "things_made_first") rfl)
  obtain ⟨fd_bits_rule, D_bits_rule⟩ := c.def_ 13 (d := d_bits_rule) rfl
  have g_bits_rule := He.glo_ok X G (c.fact 13 (f := .glo "bits_rule") rfl)
  obtain ⟨fd_direct, D_direct⟩ := c.def_ 15 (d := d_direct) rfl
  have g_direct := He.glo_ok X G (c.fact 15 (f := .glo "direct") rfl)
  obtain ⟨fd_is_within, D_is_within⟩ := c.def_ 12 (d := d_is_within) rfl
  have g_is_within := He.glo_ok X G (c.fact 12 (f := .glo "is_within") rfl)
  obtain ⟨fd_after_a_round, D_after_a_round⟩ := c.def_ 16 (d := d_after_a_round) rfl
  have g_after_a_round := He.glo_ok X G (c.fact 16 (f := .glo "after_a_round") rfl)
  obtain ⟨fd_first_far, D_first_far⟩ := c.def_ 17 (d := d_first_far) rfl
  have g_first_far := He.glo_ok X G (c.fact 17 (f := .glo "first_far") rfl)
  obtain ⟨fd_w_at_once, D_w_at_once⟩ := c.def_ 63 (d := d_w_at_once) rfl
  have g_w_at_once := He.glo_ok X G (c.fact 63 (f := .glo "_law_at_once") rfl)
  obtain ⟨fd_w_mask, D_w_mask⟩ := c.def_ 50 (d := d_w_mask) rfl
  have g_w_mask := He.glo_ok X G (c.fact 50 (f := .glo "_law_mask") rfl)
  obtain ⟨fd_closure, D_closure⟩ := c.def_ 11 (d := d_closure) rfl
  have g_closure := He.glo_ok X G (c.fact 11 (f := .glo "closure") rfl)
  obtain ⟨fd_w_by_closures, D_w_by_closures⟩ := c.def_ 64 (d := d_w_by_closures) rfl
  have g_w_by_closures := He.glo_ok X G (c.fact 64 (f := .glo "_law_by_closures") rfl)
  obtain ⟨fd_below_closed, D_below_closed⟩ := c.def_ 36 (d := d_below_closed) rfl
  have g_below_closed := He.glo_ok X G (c.fact 36 (f := .glo "below_closed") rfl)
  obtain ⟨fd_closure_in, D_closure_in⟩ := c.def_ 10 (d := d_closure_in) rfl
  have g_closure_in := He.glo_ok X G (c.fact 10 (f := .glo "closure_in") rfl)
  obtain ⟨fd_next_below, D_next_below⟩ := c.def_ 42 (d := d_next_below) rfl
  have g_next_below := He.glo_ok X G (c.fact 42 (f := .glo "next_below") rfl)
  obtain ⟨fd_all_things, D_all_things⟩ := c.def_ 39 (d := d_all_things) rfl
  have g_all_things := He.glo_ok X G (c.fact 39 (f := .glo "all_things") rfl)
  obtain ⟨fd_nonkeys, D_nonkeys⟩ := c.def_ 43 (d := d_nonkeys) rfl
  have g_nonkeys := He.glo_ok X G (c.fact 43 (f := .glo "nonkeys") rfl)
  obtain ⟨fd_things_in, D_things_in⟩ := c.def_ 32 (d := d_things_in) rfl
  have g_things_in := He.glo_ok X G (c.fact 32 (f := .glo "things_in") rfl)
  obtain ⟨fd_lots_within, D_lots_within⟩ := c.def_ 33 (d := d_lots_within) rfl
  have g_lots_within := He.glo_ok X G (c.fact 33 (f := .glo "lots_within") rfl)
  obtain ⟨fd_spare_by, D_spare_by⟩ := c.def_ 35 (d := d_spare_by) rfl
  have g_spare_by := He.glo_ok X G (c.fact 35 (f := .glo "spare_by") rfl)
  obtain ⟨fd_makers_by, D_makers_by⟩ := c.def_ 37 (d := d_makers_by) rfl
  have g_makers_by := He.glo_ok X G (c.fact 37 (f := .glo "makers_by") rfl)
  obtain ⟨fd_closures_of, D_closures_of⟩ := c.def_ 34 (d := d_closures_of) rfl
  have g_closures_of := He.glo_ok X G (c.fact 34 (f := .glo "closures_of") rfl)
  obtain ⟨fd_makers_with, D_makers_with⟩ := c.def_ 38 (d := d_makers_with) rfl
  have g_makers_with := He.glo_ok X G (c.fact 38 (f := .glo "makers_with") rfl)
  obtain ⟨fd_makers, D_makers⟩ := c.def_ 40 (d := d_makers) rfl
  have g_makers := He.glo_ok X G (c.fact 40 (f := .glo "makers") rfl)
  obtain ⟨fd_keys, D_keys⟩ := c.def_ 41 (d := d_keys) rfl
  have g_keys := He.glo_ok X G (c.fact 41 (f := .glo "keys") rfl)
  obtain ⟨fd_w_is_key, D_w_is_key⟩ := c.def_ 65 (d := d_w_is_key) rfl
  have g_w_is_key := He.glo_ok X G (c.fact 65 (f := .glo "_law_is_key") rfl)
  obtain ⟨fd_law, D_law⟩ := c.def_ 66 (d := d_law) rfl
  have g_law := He.glo_ok X G (c.fact 66 (f := .glo "law") rfl)
  have e := hfa.symm.trans g_law
  cases e
  refine ⟨fd_law, fun s v => FunD.bindsA (ps := ["_law_script"]) D_law (fun _ _ _ _ _ _ us hl => match us, hl with | [_], _ => rfl) s [v] rfl, fun base _ _ => ?_⟩
  have P_w_spring := mkP ⟨g_w_spring, D_w_spring.kp, (FunD.bindsN D_w_spring fun _ _ _ _ _ _ us hl => match us, hl with | [_], _ => rfl)⟩ (ok_w_spring (P := P) (w := w) (base := base) (fun_of D_w_spring) T)
  have P_w_draw := mkP ⟨g_w_draw, D_w_draw.kp, (FunD.bindsN D_w_draw fun _ _ _ _ _ _ us hl => match us, hl with | [_, _], _ => rfl)⟩ (ok_w_draw (P := P) (w := w) (base := base) (fun_of D_w_draw) T)
  have P_w_pick := mkP ⟨g_w_pick, D_w_pick.kp, (FunD.bindsN D_w_pick fun _ _ _ _ _ _ us hl => match us, hl with | [_, _], _ => rfl)⟩ (ok_w_pick (P := P) (w := w) (base := base) (fun_of D_w_pick) T P_w_draw)
  have P_w_some := mkP ⟨g_w_some, D_w_some.kp, (FunD.bindsN D_w_some fun _ _ _ _ _ _ us hl => match us, hl with | [_, _, _], _ => rfl)⟩ (ok_w_some (P := P) (w := w) (base := base) (fun_of D_w_some) T P_w_draw)
  have P_w_needs := mkP ⟨g_w_needs, D_w_needs.kp, (FunD.bindsN D_w_needs fun _ _ _ _ _ _ us hl => match us, hl with | [_, _], _ => rfl)⟩ (ok_w_needs (P := P) (w := w) (base := base) (fun_of D_w_needs) T P_w_draw P_w_pick P_w_some)
  have P_w_closed := mkP ⟨g_w_closed, D_w_closed.kp, (FunD.bindsN D_w_closed fun _ _ _ _ _ _ us hl => match us, hl with | [_, _], _ => rfl)⟩ (ok_w_closed (P := P) (w := w) (base := base) (fun_of D_w_closed) T)
  have P_w_lot := mkP ⟨g_w_lot, D_w_lot.kp, (FunD.bindsN D_w_lot fun _ _ _ _ _ _ us hl => match us, hl with | [_], _ => rfl)⟩ (ok_w_lot (P := P) (w := w) (base := base) (fun_of D_w_lot) T)
  have P_w_tome := mkP ⟨g_w_tome, D_w_tome.kp, (FunD.bindsN D_w_tome fun _ _ _ _ _ _ us hl => match us, hl with | [_, _], _ => rfl)⟩ (ok_w_tome (P := P) (w := w) (base := base) (fun_of D_w_tome) T P_w_lot)
  have P_w_mixed := mkP ⟨g_w_mixed, D_w_mixed.kp, (FunD.bindsN D_w_mixed fun _ _ _ _ _ _ us hl => match us, hl with | [_, _], _ => rfl)⟩ (ok_w_mixed (P := P) (w := w) (base := base) (fun_of D_w_mixed) T P_w_draw)
  have P_w_spread := mkP ⟨g_w_spread, D_w_spread.kp, (FunD.bindsN D_w_spread fun _ _ _ _ _ _ us hl => match us, hl with | [_, _], _ => rfl)⟩ (ok_w_spread (P := P) (w := w) (base := base) (fun_of D_w_spread) T)
  have P_w_blown := mkP ⟨g_w_blown, D_w_blown.kp, (FunD.bindsN D_w_blown fun _ _ _ _ _ _ us hl => match us, hl with | [_, _, _], _ => rfl)⟩ (ok_w_blown (P := P) (w := w) (base := base) (fun_of D_w_blown) T P_w_draw P_w_mixed P_w_spread)
  have P_w_book := mkP ⟨g_w_book, D_w_book.kp, (FunD.bindsN D_w_book fun _ _ _ _ _ _ us hl => match us, hl with | [_], _ => rfl)⟩ (ok_w_book (P := P) (w := w) (base := base) (fun_of D_w_book) T P_w_draw P_w_pick P_w_needs P_w_closed P_w_tome P_w_blown P_w_spread)
  have P_greatest_bits := mkP ⟨g_greatest_bits, D_greatest_bits.kp, (FunD.bindsN D_greatest_bits fun _ _ _ _ _ _ us hl => match us, hl with | [_], _ => rfl)⟩ (ok_greatest_bits (P := P) (w := w) (base := base) (fun_of D_greatest_bits) T)
  have P_bits_of := mkP ⟨g_bits_of, D_bits_of.kp, (FunD.bindsN D_bits_of fun _ _ _ _ _ _ us hl => match us, hl with | [_], _ => rfl)⟩ (ok_bits_of (P := P) (w := w) (base := base) (fun_of D_bits_of))
  have P_rule_bits := mkP ⟨g_rule_bits, D_rule_bits.kp, (FunD.bindsN D_rule_bits fun _ _ _ _ _ _ us hl => match us, hl with | [_], _ => rfl)⟩ (ok_rule_bits (P := P) (w := w) (base := base) (fun_of D_rule_bits) P_bits_of)
  have P_is_kept := mkP ⟨g_is_kept, D_is_kept.kp, (FunD.bindsN D_is_kept fun _ _ _ _ _ _ us hl => match us, hl with | [_, _], _ => rfl)⟩ (ok_is_kept (P := P) (w := w) (base := base) (fun_of D_is_kept))
  have P_lot_of := mkP ⟨g_lot_of, D_lot_of.kp, (FunD.bindsN D_lot_of fun _ _ _ _ _ _ us hl => match us, hl with | [_], _ => rfl)⟩ (ok_lot_of (P := P) (w := w) (base := base) (fun_of D_lot_of) T)
  have P_lot_key := mkP ⟨g_lot_key, D_lot_key.kp, (FunD.bindsN D_lot_key fun _ _ _ _ _ _ us hl => match us, hl with | [_], _ => rfl)⟩ (ok_lot_key (P := P) (w := w) (base := base) (fun_of D_lot_key) T)
  have P_bits_key := mkP ⟨g_bits_key, D_bits_key.kp, (FunD.bindsN D_bits_key fun _ _ _ _ _ _ us hl => match us, hl with | [_], _ => rfl)⟩ (ok_bits_key (P := P) (w := w) (base := base) (fun_of D_bits_key) P_lot_of P_lot_key)
  have P_ordered := mkP ⟨g_ordered, D_ordered.kp, (FunD.bindsN D_ordered fun _ _ _ _ _ _ us hl => match us, hl with | [_], _ => rfl)⟩ (ok_ordered (P := P) (w := w) (base := base) (fun_of D_ordered) T P_bits_key)
  have P_closed_bits := mkP ⟨g_closed_bits, D_closed_bits.kp, (FunD.bindsN D_closed_bits fun _ _ _ _ _ _ us hl => match us, hl with | [_], _ => rfl)⟩ (ok_closed_bits (P := P) (w := w) (base := base) (fun_of D_closed_bits) T P_rule_bits P_is_kept P_ordered)
  have P_without_bits := mkP ⟨g_without_bits, D_without_bits.kp, (FunD.bindsN D_without_bits fun _ _ _ _ _ _ us hl => match us, hl with | [_, _], _ => rfl)⟩ (ok_without_bits (P := P) (w := w) (base := base) (fun_of D_without_bits) P_greatest_bits P_closed_bits)
  have P_greatest_without := mkP ⟨g_greatest_without, D_greatest_without.kp, (FunD.bindsN D_greatest_without fun _ _ _ _ _ _ us hl => match us, hl with | [_, _], _ => rfl)⟩ (ok_greatest_without (P := P) (w := w) (base := base) (fun_of D_greatest_without) T P_without_bits P_lot_of)
  have K_greatest_without := mkK ⟨g_greatest_without, D_greatest_without.kp, (FunD.bindsN D_greatest_without fun _ _ _ _ _ _ us hl => match us, hl with | [_, _], _ => rfl)⟩ (keyB D_greatest_without fun _ _ _ _ _ _ _ _ => rfl) (ok_greatest_without (P := P) (w := w) (base := base) (fun_of D_greatest_without) T P_without_bits P_lot_of)
  have P_whole_bits := mkP ⟨g_whole_bits, D_whole_bits.kp, (FunD.bindsN D_whole_bits fun _ _ _ _ _ _ us hl => match us, hl with | [_], _ => rfl)⟩ (ok_whole_bits (P := P) (w := w) (base := base) (fun_of D_whole_bits))
  have P_least_bits := mkP ⟨g_least_bits, D_least_bits.kp, (FunD.bindsN D_least_bits fun _ _ _ _ _ _ us hl => match us, hl with | [_], _ => rfl)⟩ (ok_least_bits (P := P) (w := w) (base := base) (fun_of D_least_bits) T P_ordered)
  have P_hit_bits := mkP ⟨g_hit_bits, D_hit_bits.kp, (FunD.bindsN D_hit_bits fun _ _ _ _ _ _ us hl => match us, hl with | [_, _], _ => rfl)⟩ (ok_hit_bits (P := P) (w := w) (base := base) (fun_of D_hit_bits) T P_ordered P_least_bits)
  have P_rules_for := mkP ⟨g_rules_for, D_rules_for.kp, (FunD.bindsN D_rules_for fun _ _ _ _ _ _ us hl => match us, hl with | [_, _], _ => rfl)⟩ (ok_rules_for (P := P) (w := w) (base := base) (fun_of D_rules_for) T P_whole_bits P_hit_bits P_without_bits P_lot_of)
  have K_rules_for := mkK ⟨g_rules_for, D_rules_for.kp, (FunD.bindsN D_rules_for fun _ _ _ _ _ _ us hl => match us, hl with | [_, _], _ => rfl)⟩ (keyB D_rules_for fun _ _ _ _ _ _ _ _ => rfl) (ok_rules_for (P := P) (w := w) (base := base) (fun_of D_rules_for) T P_whole_bits P_hit_bits P_without_bits P_lot_of)
  have P_w_greatest := mkP ⟨g_w_greatest, D_w_greatest.kp, (FunD.bindsN D_w_greatest fun _ _ _ _ _ _ us hl => match us, hl with | [_], _ => rfl)⟩ (ok_w_greatest (P := P) (w := w) (base := base) (fun_of D_w_greatest) T)
  have P_w_by_steps := mkP ⟨g_w_by_steps, D_w_by_steps.kp, (FunD.bindsN D_w_by_steps fun _ _ _ _ _ _ us hl => match us, hl with | [_], _ => rfl)⟩ (ok_w_by_steps (P := P) (w := w) (base := base) (fun_of D_w_by_steps) T)
  have P_w_rank := mkP ⟨g_w_rank, D_w_rank.kp, (FunD.bindsN D_w_rank fun _ _ _ _ _ _ us hl => match us, hl with | [_], _ => rfl)⟩ (ok_w_rank (P := P) (w := w) (base := base) (fun_of D_w_rank) T)
  have P_w_lots := mkP ⟨g_w_lots, D_w_lots.kp, (FunD.bindsN D_w_lots fun _ _ _ _ _ _ us hl => match us, hl with | [_], _ => rfl)⟩ (ok_w_lots (P := P) (w := w) (base := base) (fun_of D_w_lots) T P_w_lot P_w_rank)
  have G_w_is_found := mkPG ⟨g_w_is_found, D_w_is_found.kp, (FunD.bindsN D_w_is_found fun _ _ _ _ _ _ us hl => match us, hl with | [_, _, _], _ => rfl)⟩ (ok_w_is_found (P := P) (w := w) (base := base) (fun_of D_w_is_found) T P_w_greatest P_w_by_steps P_w_lots P_greatest_without P_rules_for K_greatest_without K_rules_for)
  have P_hits := mkP ⟨g_hits, D_hits.kp, (FunD.bindsN D_hits fun _ _ _ _ _ _ us hl => match us, hl with | [_, _], _ => rfl)⟩ (ok_hits (P := P) (w := w) (base := base) (fun_of D_hits) T P_hit_bits P_bits_of P_lot_of)
  have K_hits := mkK ⟨g_hits, D_hits.kp, (FunD.bindsN D_hits fun _ _ _ _ _ _ us hl => match us, hl with | [_, _], _ => rfl)⟩ (keyB D_hits fun _ _ _ _ _ _ _ _ => rfl) (ok_hits (P := P) (w := w) (base := base) (fun_of D_hits) T P_hit_bits P_bits_of P_lot_of)
  have G_w_is_hit := mkPG ⟨g_w_is_hit, D_w_is_hit.kp, (FunD.bindsN D_w_is_hit fun _ _ _ _ _ _ us hl => match us, hl with | [_, _, _, _], _ => rfl)⟩ (ok_w_is_hit (P := P) (w := w) (base := base) (fun_of D_w_is_hit) T P_w_rank P_hits K_hits)
  have P_meet_above := mkP ⟨g_meet_above, D_meet_above.kp, (FunD.bindsN D_meet_above fun _ _ _ _ _ _ us hl => match us, hl with | [_, _, _], _ => rfl)⟩ (ok_meet_above (P := P) (w := w) (base := base) (fun_of D_meet_above) P_whole_bits)
  have P_irreducible_bits := mkP ⟨g_irreducible_bits, D_irreducible_bits.kp, (FunD.bindsN D_irreducible_bits fun _ _ _ _ _ _ us hl => match us, hl with | [_, _], _ => rfl)⟩ (ok_irreducible_bits (P := P) (w := w) (base := base) (fun_of D_irreducible_bits) P_meet_above)
  have P_table_made := mkP ⟨g_table_made, D_table_made.kp, (FunD.bindsN D_table_made fun _ _ _ _ _ _ us hl => match us, hl with | [_, _], _ => rfl)⟩ (ok_table_made (P := P) (w := w) (base := base) (fun_of D_table_made) T P_irreducible_bits P_lot_of)
  have P_table_of := mkP ⟨g_table_of, D_table_of.kp, (FunD.bindsN D_table_of fun _ _ _ _ _ _ us hl => match us, hl with | [_], _ => rfl)⟩ (ok_table_of (P := P) (w := w) (base := base) (fun_of D_table_of) P_table_made P_closed_bits)
  have P_need_closed := mkP ⟨g_need_closed, D_need_closed.kp, (FunD.bindsN D_need_closed fun _ _ _ _ _ _ us hl => match us, hl with | [_, _], _ => rfl)⟩ (ok_need_closed (P := P) (w := w) (base := base) (fun_of D_need_closed) P_bits_of)
  have P_barred := mkP ⟨g_barred, D_barred.kp, (FunD.bindsN D_barred fun _ _ _ _ _ _ us hl => match us, hl with | [_, _], _ => rfl)⟩ (ok_barred (P := P) (w := w) (base := base) (fun_of D_barred) P_closed_bits P_need_closed P_meet_above P_lot_of)
  have P_bits_round := mkP ⟨g_bits_round, D_bits_round.kp, (FunD.bindsN D_bits_round fun _ _ _ _ _ _ us hl => match us, hl with | [_, _], _ => rfl)⟩ (ok_bits_round (P := P) (w := w) (base := base) (fun_of D_bits_round))
  have P_bits_closure := mkP ⟨g_bits_closure, D_bits_closure.kp, (FunD.bindsN D_bits_closure fun _ _ _ _ _ _ us hl => match us, hl with | [_, _], _ => rfl)⟩ (ok_bits_closure (P := P) (w := w) (base := base) (fun_of D_bits_closure) P_bits_round)
  have P_things_made_first := mkP ⟨g_things_made_first, D_things_made_first.kp, (FunD.bindsN D_things_made_first fun _ _ _ _ _ _ us hl => match us, hl with | [_, _], _ => rfl)⟩ (ok_things_made_first (P := P) (w := w) (base := base) (fun_of D_things_made_first) P_lot_of)
  have P_bits_rule := mkP ⟨g_bits_rule, D_bits_rule.kp, (FunD.bindsN D_bits_rule fun _ _ _ _ _ _ us hl => match us, hl with | [_, _], _ => rfl)⟩ (ok_bits_rule (P := P) (w := w) (base := base) (fun_of D_bits_rule) P_lot_of)
  have P_direct := mkP ⟨g_direct, D_direct.kp, (FunD.bindsN D_direct fun _ _ _ _ _ _ us hl => match us, hl with | [_], _ => rfl)⟩ (ok_direct (P := P) (w := w) (base := base) (fun_of D_direct) T P_rule_bits P_bits_closure P_ordered P_things_made_first P_bits_rule)
  have P_is_within := mkP ⟨g_is_within, D_is_within.kp, (FunD.bindsN D_is_within fun _ _ _ _ _ _ us hl => match us, hl with | [_, _], _ => rfl)⟩ (ok_is_within (P := P) (w := w) (base := base) (fun_of D_is_within))
  have P_after_a_round := mkP ⟨g_after_a_round, D_after_a_round.kp, (FunD.bindsN D_after_a_round fun _ _ _ _ _ _ us hl => match us, hl with | [_, _], _ => rfl)⟩ (ok_after_a_round (P := P) (w := w) (base := base) (fun_of D_after_a_round) P_is_within)
  have P_first_far := mkP ⟨g_first_far, D_first_far.kp, (FunD.bindsN D_first_far fun _ _ _ _ _ _ us hl => match us, hl with | [_, _], _ => rfl)⟩ (ok_first_far (P := P) (w := w) (base := base) (fun_of D_first_far) T P_bits_of P_ordered P_after_a_round)
  have G_w_at_once := mkPG ⟨g_w_at_once, D_w_at_once.kp, (FunD.bindsN D_w_at_once fun _ _ _ _ _ _ us hl => match us, hl with | [_, _, _], _ => rfl)⟩ (ok_w_at_once (P := P) (w := w) (base := base) (fun_of D_w_at_once) T P_w_rank P_table_of P_barred P_direct P_first_far)
  have P_w_mask := mkP ⟨g_w_mask, D_w_mask.kp, (FunD.bindsN D_w_mask fun _ _ _ _ _ _ us hl => match us, hl with | [_], _ => rfl)⟩ (ok_w_mask (P := P) (w := w) (base := base) (fun_of D_w_mask) T)
  have P_closure := mkP ⟨g_closure, D_closure.kp, (FunD.bindsN D_closure fun _ _ _ _ _ _ us hl => match us, hl with | [_, _], _ => rfl)⟩ (ok_closure (P := P) (w := w) (base := base) (fun_of D_closure) P_rule_bits P_bits_of P_bits_closure P_lot_of)
  have G_w_by_closures := mkPG ⟨g_w_by_closures, D_w_by_closures.kp, (FunD.bindsN D_w_by_closures fun _ _ _ _ _ _ us hl => match us, hl with | [_, _, _, _], _ => rfl)⟩ (ok_w_by_closures (P := P) (w := w) (base := base) (fun_of D_w_by_closures) T P_w_some P_w_mask P_w_lot P_closure)
  have P_below_closed := mkP ⟨g_below_closed, D_below_closed.kp, (FunD.bindsN D_below_closed fun _ _ _ _ _ _ us hl => match us, hl with | [_, _], _ => rfl)⟩ (ok_below_closed (P := P) (w := w) (base := base) (fun_of D_below_closed) T P_ordered)
  have P_closure_in := mkP ⟨g_closure_in, D_closure_in.kp, (FunD.bindsN D_closure_in fun _ _ _ _ _ _ us hl => match us, hl with | [_, _], _ => rfl)⟩ (ok_closure_in (P := P) (w := w) (base := base) (fun_of D_closure_in))
  have P_next_below := mkP ⟨g_next_below, D_next_below.kp, (FunD.bindsN D_next_below fun _ _ _ _ _ _ us hl => match us, hl with | [_, _], _ => rfl)⟩ (ok_next_below (P := P) (w := w) (base := base) (fun_of D_next_below) T P_closed_bits P_below_closed P_closure_in P_bits_of P_lot_of)
  have P_all_things := mkP ⟨g_all_things, D_all_things.kp, (FunD.bindsN D_all_things fun _ _ _ _ _ _ us hl => match us, hl with | [_], _ => rfl)⟩ (ok_all_things (P := P) (w := w) (base := base) (fun_of D_all_things) T)
  have P_nonkeys := mkP ⟨g_nonkeys, D_nonkeys.kp, (FunD.bindsN D_nonkeys fun _ _ _ _ _ _ us hl => match us, hl with | [_], _ => rfl)⟩ (ok_nonkeys (P := P) (w := w) (base := base) (fun_of D_nonkeys) P_next_below P_all_things)
  have P_things_in := mkP ⟨g_things_in, D_things_in.kp, (FunD.bindsN D_things_in fun _ _ _ _ _ _ us hl => match us, hl with | [_], _ => rfl)⟩ (ok_things_in (P := P) (w := w) (base := base) (fun_of D_things_in) T)
  have P_lots_within := mkP ⟨g_lots_within, D_lots_within.kp, (FunD.bindsN D_lots_within fun _ _ _ _ _ _ us hl => match us, hl with | [_], _ => rfl)⟩ (ok_lots_within (P := P) (w := w) (base := base) (fun_of D_lots_within) P_things_in)
  have P_spare_by := mkP ⟨g_spare_by, D_spare_by.kp, (FunD.bindsN D_spare_by fun _ _ _ _ _ _ us hl => match us, hl with | [_, _], _ => rfl)⟩ (ok_spare_by (P := P) (w := w) (base := base) (fun_of D_spare_by) P_things_in)
  have P_makers_by := mkP ⟨g_makers_by, D_makers_by.kp, (FunD.bindsN D_makers_by fun _ _ _ _ _ _ us hl => match us, hl with | [_, _], _ => rfl)⟩ (ok_makers_by (P := P) (w := w) (base := base) (fun_of D_makers_by) P_lots_within P_spare_by P_ordered)
  have P_closures_of := mkP ⟨g_closures_of, D_closures_of.kp, (FunD.bindsN D_closures_of fun _ _ _ _ _ _ us hl => match us, hl with | [_], _ => rfl)⟩ (ok_closures_of (P := P) (w := w) (base := base) (fun_of D_closures_of) T P_rule_bits P_bits_closure)
  have P_makers_with := mkP ⟨g_makers_with, D_makers_with.kp, (FunD.bindsN D_makers_with fun _ _ _ _ _ _ us hl => match us, hl with | [_, _], _ => rfl)⟩ (ok_makers_with (P := P) (w := w) (base := base) (fun_of D_makers_with) P_makers_by P_closures_of P_bits_of)
  have P_makers := mkP ⟨g_makers, D_makers.kp, (FunD.bindsN D_makers fun _ _ _ _ _ _ us hl => match us, hl with | [_, _], _ => rfl)⟩ (ok_makers (P := P) (w := w) (base := base) (fun_of D_makers) T P_makers_with P_lot_of)
  have P_keys := mkP ⟨g_keys, D_keys.kp, (FunD.bindsN D_keys fun _ _ _ _ _ _ us hl => match us, hl with | [_], _ => rfl)⟩ (ok_keys (P := P) (w := w) (base := base) (fun_of D_keys) P_makers P_all_things)
  have G_w_is_key := mkPG ⟨g_w_is_key, D_w_is_key.kp, (FunD.bindsN D_w_is_key fun _ _ _ _ _ _ us hl => match us, hl with | [_], _ => rfl)⟩ (ok_w_is_key (P := P) (w := w) (base := base) (fun_of D_w_is_key) T P_hits P_nonkeys P_keys)
  exact ok_law (P := P) (w := w) (base := base) all_good (fun_of D_law) T P_w_spring P_w_book P_w_draw P_greatest_without P_rules_for G_w_is_found G_w_is_hit G_w_at_once G_w_by_closures G_w_is_key
end Mt

set_option maxHeartbeats 4000000
namespace Mt
open PySem PySem.Spec PyProof.Rows L2
/-! ### the law's def at the caller: data by repr is shown, so the guards are known to be none -/
theorem enterG {P : Program} {w : World} {K : PySem.W.Frag} {mg mb : Str → Option Value} {k : Nat} {fa a : Addr} {fd : FuncData} {x : Str} {sp : Sp} {s : Shared} {vs : List Value} {ns : List Int}
    (KX : K.In s.heap) (hns : s.heap.Ns mainGlobals mg) (hb : s.heap.Ns builtinsNs mb) (hbb : ∀ x : Str, x ≠ "__name__" → mb x = bootBuiltins x) (hlim : s.heap.NoLimit) (hg : s.gens = #[])
    (ha : s.heap.get? a = some { cls := .type "list", data := .seq vs.toArray }) (hi : IntsAre vs ns) (hl : ns.length ≤ sizeLine) (hr : Room k callerA) (hgd : callerA.guards = some [])
    (F : ∀ base : Heap, K.In base → base.Ns mainGlobals mg → FnG P w K mg base k fa fd [x] sp) (hbind : ∀ (s : Shared) (u : Value), BindsTo s fd ⟨[u], []⟩ [(x, u)])
    (hsp : ∀ H : Hp, SqL K H a (ns.map V.int) → sp [.ref a] H (fun v _ => v = .bl true) E0) :
    codeAny (model P w) callerA (.call (.ref fa) ⟨[.ref a], []⟩) (fun r s' => r = .ok (.ret (.bool true)) ∧ OldK s.heap s'.heap ∧ s'.os = s.os ∧ AllBare s'.gens) s := by
  have vals := vals_ints hi
  have vlen := hi.length
  let ob : Obj := { cls := .type "list", data := .seq vs.toArray }
  -- H tells of the script at most, and then as it stands
  have go : ∀ H : Hp, (∀ b o, H b = some o → b = a ∧ K.lookup a = none ∧ o = .frz ob (.lst (ns.map V.int))) → SqL K H a (ns.map V.int) → HOk P w H s.heap →
      codeAny (model P w) callerA (.call (.ref fa) ⟨[.ref a], []⟩) (fun r s' => r = .ok (.ret (.bool true)) ∧ OldK s.heap s'.heap ∧ s'.os = s.os ∧ AllBare s'.gens) s := by
    intro H h1 h2 h3
    have off : ∀ {b : Addr} {o : Obj} {es : Array DictEntry} {ep : Nat}, s.heap.get? b = some o → o.data = .dict es ep → (hidT s.heap H).get? b = some o := fun {b o es ep} e1 e2 => hidT_get e1 (by
      cases q : H b with
      | none => rfl
      | some u =>
        rw [(h1 b u q).1, ha] at e1
        cases e1
        cases e2)
    have ns' : ∀ {b : Addr} {m : Str → Option Value}, s.heap.Ns b m → (hidT s.heap H).Ns b m := fun {b m} ⟨o, es, ep, e, d, r⟩ => ⟨o, es, ep, off e d, d, r⟩
    have kin : K.In (hidT s.heap H) := fun b o e => hidT_get (KX b o e) (by
      cases q : H b with
      | none => rfl
      | some u =>
        obtain ⟨e1, e2, _⟩ := h1 b u q
        rw [e1, e2] at e
        cases e)
    obtain ⟨mc, l1, l2⟩ := hlim
    have env : Env0 P w K mg (hidT s.heap H) callerA [] s H := ⟨rfl, ⟨kin, ns' hns, ⟨mb, ns' hb, hbb⟩, ⟨mc, ns' l1, l2⟩⟩, fun b o e => of_hidT e, Nat.le_of_eq (hidT_size _ _), trivial, (fun b hb => nomatch hb), h3, .of_eq hg⟩
    refine codeAny_mono ((F _ kin (ns' hns)).run callerA [] s H ⟨[.ref a], []⟩ [.ref a] [.ref a] _ hr hgd env (hbind s (.ref a)) (.cons rfl .nil) (hsp H h2)) fun r s' h => ?_
    cases r with
    | error e => exact h.elim
    | ok fl =>
      cases fl with
      | next => exact h.elim
      | brk => exact h.elim
      | cont => exact h.elim
      | ret u =>
        obtain ⟨v, H', os, bare, un, ok', r', q⟩ := h
        obtain rfl : v = .bl true := q
        obtain rfl : u = Value.bool true := r'
        refine ⟨rfl, OldK.of_keep fun b o e => ?_, os, bare⟩
        cases q : H b with
        | none => exact un.keep b o e q (fun z => nomatch z) (by simp)
        | some u =>
          obtain ⟨_, _, e3⟩ := h1 b u q
          subst e3
          have z1 := (h3 b _ q).1
          have z2 := (ok' b _ (un.frzs b _ _ q)).1
          rw [e] at z1
          cases z1
          exact z2
  cases hk : K.lookup a with
  | some o =>
    have e := KX a o hk
    rw [ha] at e
    cases e
    exact go (fun _ => none) (fun b o z => nomatch z) (.inr ⟨_, vs.toArray, _, hk, rfl, rfl, rfl, by rw [List.size_toArray, vlen]; exact hl, by simpa using vals⟩) fun b u z => nomatch z
  | none =>
    refine go (fun b => if b = a then some (.frz ob (.lst (ns.map V.int))) else none) (fun b o z => ?_) (.inl (.inr ⟨ob, if_pos rfl⟩)) fun b o z => ?_
    · have z : (if b = a then some (HO.frz ob (HO.lst (ns.map V.int))) else none) = some o := z
      by_cases e : b = a
      · rw [if_pos e] at z
        exact ⟨e, hk, (Option.some.inj z).symm⟩
      · rw [if_neg e] at z
        cases z
    · have z : (if b = a then some (HO.frz ob (HO.lst (ns.map V.int))) else none) = some o := z
      by_cases e : b = a
      · rw [if_pos e] at z
        cases z
        subst e
        exact ⟨ha, by rw [List.length_map]; exact hl, vs, _, vals, ha⟩
      · rw [if_neg e] at z
        cases z
theorem bits_lt {z : Int} {n : Nat} (h : Builtin.Int.intBits z ≤ n) : z.natAbs < 2 ^ n := by
  unfold Builtin.Int.intBits at h
  by_cases h0 : z = 0
  · subst h0
    exact Nat.two_pow_pos n
  · rw [if_neg (by simpa using h0)] at h
    exact (Nat.log2_lt (by omega)).mp (by omega)
end Mt
open PySem PySem.W PySem.Calls PyProof.Rows
theorem PySem.Challenge.cw_meetlots_k36_whole_rules_and_greatest_lo_holds : PySem.Challenge.rw_meetlots_k36_whole_rules_and_greatest_lo.Holds := by
  w_on; o_law
  refine HandSHeadRun.head_any (r := OpenLaw.row PySem.Challenge.rw_meetlots_k36_whole_rules_and_greatest_lo) (q := view (OpenLaw.row PySem.Challenge.rw_meetlots_k36_whole_rules_and_greatest_lo).prog [78]) (H := Mt.hk) (ob := Mt.ob) (M := 4000) (loose := Mt.loose) (d := HandSHeadRun.topDef (OpenLaw.row PySem.Challenge.rw_meetlots_k36_whole_rules_and_greatest_lo).prog 78) (kwd := []) Mt.ob_eq
    (by kernel_rfl) (fun s => by kernel_rfl) Mt.run (by kernel_rfl) (by kernel_rfl) (by kernel_rfl) (by rfl) (by first | assumption | decide +kernel) (by decide +kernel) ⟨rfl, rfl, rfl, rfl, rfl, by decide +kernel⟩ ?hw ?hc
  case hw => w_witness2
  case hc =>
    refine Att.attach_callB (n := 63) rfl (by kernel_rfl) fun w s₀ s₁ mg mb fa o pm cd doc a vs ns G Y ho hd hcd hmg0 hobj hints hlen hbits hg => ?_
    obtain ⟨K, KX, c⟩ := Y
    have hmg : mg ("law" : PySem.Str) = some (.ref fa) := by
      have e : (HandSHeadRun.topDef (OpenLaw.row PySem.Challenge.rw_meetlots_k36_whole_rules_and_greatest_lo).prog 78).name = ("law" : PySem.Str) := by kernel_rfl
      rw [← e]
      exact hmg0
    obtain ⟨fd, hb, hF⟩ := Mt.facts (P := (PySem.Challenge.rw_meetlots_k36_whole_rules_and_greatest_lo).prog) (w := w) KX G.T.g hmg c
    refine Mt.enterG KX G.T.g G.T.b G.T.builtins G.T.nolimit hg hobj hints (Nat.le_trans hlen (by decide)) ⟨rfl, by decide, by decide⟩ rfl hF hb fun H hS => ?_
    refine ⟨_, _, fun _ => False, ⟨ns, fun z hz => Mt.bits_lt (hbits z hz), rfl, rfl⟩, fun b z => z.elim, .cons (.lst ?_ (Mt.dps_ints ns)) .nil, fun v H' _ hv => Mt.dp_bool hv⟩
    rcases hS with (z | ⟨ob, z⟩) | z
    · exact .inl (.inl (Mt.hid_iff.mpr ⟨fun y => y, z⟩))
    · exact .inl (.inr ⟨ob, Mt.hid_iff.mpr ⟨fun y => y, z⟩⟩)
    · exact .inr z
