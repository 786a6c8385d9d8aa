import PyProof.Rows.All
import Wide.All
import OpenK.AllK
import Wide.FinOn
import HandS.ForExc
import HandS.ForMost
import HandS.Defaults
import HandS.IsInst
import HandS.Wide
import HandS.Flow
import HandS.Style
import HandS.Deep
import HandS.Zip
import HandS.Star
import HandS.SortInts
import HandS.TupAny
import HandS.SetFor
import PyProof.Rows.SeqMore
import HandS.GenList
import KE.KDictZip
import KE.GoesEnum
import PyProof.ReprLen
import PyProof.ReprBulk
import HandS.Property
import HandS.HeadHook3
import KE.KStateDown
import HandS.Ends
import HandS.More
import HandS.Words
import HandS.WordsExc
import HandS.MakeKwOnly
import HandS.Head0
import HandS.Head1
import HandS.Head2
import HandS.HeadEnd
import HandS.HeadHook1
import HandS.HeadHook2
import PySem.Challenge.RW_triplefree_k71_whole_greedy_by_definitio
set_option Elab.async false
set_option linter.all false
set_option autoImplicit false
set_option maxRecDepth 100000
set_option maxHeartbeats 0
set_option exponentiation.threshold 10000
/-! Data-level layer: values as data, states as lists of slots. -/
namespace Dt
open L2 PySem PySem.Spec PyProof.Rows
/-! ### data -/
inductive D where
  | non
  | bl (b : Bool)
  | int (i : Int)
  | str (x : Str)
  | lst (xs : List D)
  | tup (xs : List D)
  | obj (c : Str) (fs : List D)
  | dic (ks : List Key) (vs : List D)
/-- what is known of the classes: address, names of the fields in order -/
abbrev Cl := Str → Option (Addr × List Str)
mutual
inductive Rp (K : PySem.W.Frag) (cl : Cl) (H : Hp) : V → D → Prop
  | non : Rp K cl H .non .non
  | bl (b : Bool) : Rp K cl H (.bl b) (.bl b)
  | int (i : Int) : Rp K cl H (.int i) (.int i)
  | str (x : Str) : Rp K cl H (.str x) (.str x)
  | lst {a : Addr} {xs : List V} {ds : List D} : SqL K H a xs → RpA K cl H xs ds → Rp K cl H (.ref a) (.lst ds)
  | tup {a : Addr} {xs : List V} {ds : List D} : SqT K H a xs → RpA K cl H xs ds → Rp K cl H (.ref a) (.tup ds)
  | obj {a C dx : Addr} {fvs : List (Str × V)} {c : Str} {names : List Str} {ds : List D} : cl c = some (C, names) → H a = some (.ins C dx fvs) → fvs.map (·.1) = names.take ds.length → RpA K cl H (fvs.map (·.2)) ds → Rp K cl H (.ref a) (.obj c ds)
  | dic {a : Addr} {kvs : List (Key × V)} {ks : List Key} {ds : List D} : Rd H a (.dK kvs) → kvs.map (·.1) = ks → RpA K cl H (kvs.map (·.2)) ds → Rp K cl H (.ref a) (.dic ks ds)
inductive RpA (K : PySem.W.Frag) (cl : Cl) (H : Hp) : List V → List D → Prop
  | nil : RpA K cl H [] []
  | cons {v : V} {vs : List V} {d : D} {ds : List D} : Rp K cl H v d → RpA K cl H vs ds → RpA K cl H (v :: vs) (d :: ds)
end
theorem same_rd {H H' : Hp} (s : Same H H') {a : Addr} {u : HO} (h : Rd H a u) : Rd H' a u := by
  rcases h with h | ⟨o, h⟩
  · exact .inl (s _ _ h)
  · exact .inr ⟨o, s _ _ h⟩
theorem same_sqT {K : PySem.W.Frag} {H H' : Hp} (s : Same H H') {a : Addr} {xs : List V} (h : SqT K H a xs) : SqT K H' a xs := by
  rcases h with h | h
  · exact .inl (same_rd s h)
  · exact .inr h
mutual
theorem Rp.mono {K : PySem.W.Frag} {cl : Cl} {H H' : Hp} (s : Same H H') : ∀ {v : V} {d : D}, Rp K cl H v d → Rp K cl H' v d
  | _, _, .non => .non
  | _, _, .bl b => .bl b
  | _, _, .int i => .int i
  | _, _, .str x => .str x
  | _, _, .lst h r => .lst (s.seq h) (RpA.mono s r)
  | _, _, .tup h r => .tup (same_sqT s h) (RpA.mono s r)
  | _, _, .obj c h n r => .obj c (s _ _ h) n (RpA.mono s r)
  | _, _, .dic h n r => .dic (same_rd s h) n (RpA.mono s r)
theorem RpA.mono {K : PySem.W.Frag} {cl : Cl} {H H' : Hp} (s : Same H H') : ∀ {vs : List V} {ds : List D}, RpA K cl H vs ds → RpA K cl H' vs ds
  | _, _, .nil => .nil
  | _, _, .cons a b => .cons (Rp.mono s a) (RpA.mono s b)
end
section
variable {K : PySem.W.Frag} {cl : Cl} {H H' : Hp}
theorem RpA.len : ∀ {vs : List V} {ds : List D}, RpA K cl H vs ds → vs.length = ds.length
  | _, _, .nil => rfl
  | _, _, .cons _ r => congrArg (· + 1) r.len
theorem RpA.get : ∀ {vs : List V} {ds : List D} (i : Nat) {d : D}, RpA K cl H vs ds → ds[i]? = some d → ∃ v, vs[i]? = some v ∧ Rp K cl H v d
  | _, _, _, _, .nil, e => by (simp at e)
  | _, _, 0, _, .cons a _, e => by simp at e; subst e; exact ⟨_, rfl, a⟩
  | _, _, i + 1, _, .cons _ r, e => by
    obtain ⟨v, h1, h2⟩ := RpA.get i r (by simpa using e)
    exact ⟨v, by simpa using h1, h2⟩
theorem RpA.get' : ∀ {vs : List V} {ds : List D} (i : Nat) {v : V}, RpA K cl H vs ds → vs[i]? = some v → ∃ d, ds[i]? = some d ∧ Rp K cl H v d
  | _, _, _, _, .nil, e => by (simp at e)
  | _, _, 0, _, .cons a _, e => by simp at e; subst e; exact ⟨_, rfl, a⟩
  | _, _, i + 1, _, .cons _ r, e => by
    obtain ⟨v, h1, h2⟩ := RpA.get' i r (by simpa using e)
    exact ⟨v, by simpa using h1, h2⟩
theorem RpA.append : ∀ {vs ws : List V} {ds es : List D}, RpA K cl H vs ds → RpA K cl H ws es → RpA K cl H (vs ++ ws) (ds ++ es)
  | _, _, _, _, .nil, h => h
  | _, _, _, _, .cons a r, h => .cons a (r.append h)
theorem RpA.set : ∀ {vs : List V} {ds : List D} (i : Nat) {v : V} {d : D}, RpA K cl H vs ds → Rp K cl H v d → RpA K cl H (vs.set i v) (ds.set i d)
  | _, _, _, _, _, .nil, _ => .nil
  | _, _, 0, _, _, .cons _ r, h => .cons h r
  | _, _, i + 1, _, _, .cons a r, h => .cons a (r.set i h)
theorem RpA.take : ∀ {vs : List V} {ds : List D} (n : Nat), RpA K cl H vs ds → RpA K cl H (vs.take n) (ds.take n)
  | _, _, 0, _ => .nil
  | _, _, _ + 1, .nil => .nil
  | _, _, n + 1, .cons a r => .cons a (r.take n)
theorem RpA.drop : ∀ {vs : List V} {ds : List D} (n : Nat), RpA K cl H vs ds → RpA K cl H (vs.drop n) (ds.drop n)
  | _, _, 0, r => r
  | _, _, _ + 1, .nil => .nil
  | _, _, n + 1, .cons _ r => r.drop n
theorem RpA.rev : ∀ {vs : List V} {ds : List D}, RpA K cl H vs ds → RpA K cl H vs.reverse ds.reverse
  | _, _, .nil => .nil
  | _, _, .cons a r => by
    (rw [List.reverse_cons, List.reverse_cons])
    exact r.rev.append (.cons a .nil)
theorem RpA.two {vs : List V} {d e : D} (h : RpA K cl H vs [d, e]) : ∃ v w, vs = [v, w] ∧ Rp K cl H v d ∧ Rp K cl H w e := by
  cases h with
  | cons a r =>
    cases r with
    | cons b q =>
      cases q
      exact ⟨_, _, rfl, a, b⟩
theorem RpA.one {vs : List V} {d : D} (h : RpA K cl H vs [d]) : ∃ v, vs = [v] ∧ Rp K cl H v d := by
  cases h with
  | cons a r =>
    cases r
    exact ⟨_, rfl, a⟩
theorem RpA.ints : ∀ {vs : List V} {ns : List Int}, RpA K cl H vs (ns.map D.int) → vs = ns.map V.int
  | _, [], h => by cases h; rfl
  | _, n :: ns, h => by
    cases h with
    | cons a r =>
      cases a
      rw [r.ints]
      rfl
theorem RpA.ofInts : ∀ {ns : List Int}, RpA K cl H (ns.map V.int) (ns.map D.int)
  | [] => .nil
  | _ :: _ => .cons (.int _) RpA.ofInts
end
/-- a value that leans on no object -/
def D.scal : D → Bool
  | .non => true
  | .bl _ => true
  | .int _ => true
  | .str _ => true
  | _ => false
theorem Rp.scal {K : PySem.W.Frag} {cl : Cl} {H H' : Hp} {v : V} {d : D} (h : Rp K cl H v d) (s : d.scal = true) : Rp K cl H' v d := by
  cases h with
  | non => exact .non
  | bl b => exact .bl b
  | int i => exact .int i
  | str x => exact .str x
  | lst _ _ => cases s
  | tup _ _ => cases s
  | obj _ _ _ _ => cases s
  | dic _ _ _ => cases s
/-! ### hidden addresses -/
def hide (O : List Addr) (H : Hp) : Hp := fun a => if a ∈ O then none else H a
theorem hide_some {O : List Addr} {H : Hp} {a : Addr} {o : HO} : hide O H a = some o ↔ a ∉ O ∧ H a = some o := by
  unfold hide
  by_cases h : a ∈ O
  · simp [h]
  · simp [h]
theorem hide_le {O : List Addr} {H : Hp} : Same (hide O H) H := fun _ _ h => (hide_some.mp h).2
theorem hide_sub {O O' : List Addr} {H : Hp} (h : ∀ a ∈ O', a ∈ O) : Same (hide O H) (hide O' H) := fun _ _ e =>
  let ⟨n, e⟩ := hide_some.mp e
  hide_some.mpr ⟨fun z => n (h _ z), e⟩
/-! ### results -/
structure Ex where
  c : Str
  fs : List D
inductive Rs (α : Type) where
  | ok (a : α)
  | ex (e : Ex)
abbrev M (α : Type) := Option (Rs α)
def ok {α : Type} (a : α) : M α := some (.ok a)
def bd {α β : Type} (m : M α) (f : α → M β) : M β :=
  match m with
  | none => none
  | some (.ex e) => some (.ex e)
  | some (.ok a) => f a
theorem bd_ok {α β : Type} (a : α) (f : α → M β) : bd (ok a) f = f a := rfl
theorem bd_none {α β : Type} (f : α → M β) : bd none f = none := rfl
/-! ### states -/
/-- a slot: no value known; a value; a list or dict of the def's own; the argument that is changed for the caller -/
inductive Sl where
  | un
  | val (d : D)
  | own (d : D)
  | io (d : D)
abbrev S := List Sl
def OwnAt (K : PySem.W.Frag) (cl : Cl) (O : List Addr) (H : Hp) (a : Addr) : D → Prop
  | .lst ds => ∃ xs, H a = some (.lst xs) ∧ RpA K cl (hide O H) xs ds
  | .dic ks ds => ∃ kvs, H a = some (.dK kvs) ∧ kvs.map (·.1) = ks ∧ RpA K cl (hide O H) (kvs.map (·.2)) ds
  | .obj c ds => ∃ C names dx fvs, cl c = some (C, names) ∧ H a = some (.ins C dx fvs) ∧ fvs.map (·.1) = names.take ds.length ∧ RpA K cl (hide O H) (fvs.map (·.2)) ds
  | _ => False
theorem OwnAt.some {K : PySem.W.Frag} {cl : Cl} {O : List Addr} {H : Hp} {a : Addr} {d : D} (h : OwnAt K cl O H a d) : H a ≠ none := by
  cases d with
  | lst ds => obtain ⟨xs, e, _⟩ := h; rw [e]; simp
  | dic ks ds => obtain ⟨xs, e, _⟩ := h; rw [e]; simp
  | obj c ds => obtain ⟨_, _, _, _, _, e, _⟩ := h; rw [e]; simp
  | _ => exact h.elim
theorem OwnAt.move {K : PySem.W.Frag} {cl : Cl} {O O' : List Addr} {H H' : Hp} {a : Addr} {d : D} (h : OwnAt K cl O H a d) (e : H' a = H a) (s : Same (hide O H) (hide O' H')) : OwnAt K cl O' H' a d := by
  cases d with
  | lst ds => obtain ⟨xs, e1, r⟩ := h; exact ⟨xs, e.trans e1, r.mono s⟩
  | dic ks ds => obtain ⟨xs, e1, n, r⟩ := h; exact ⟨xs, e.trans e1, n, r.mono s⟩
  | obj c ds => obtain ⟨C, ns, dx, fvs, k, e1, n, r⟩ := h; exact ⟨C, ns, dx, fvs, k, e.trans e1, n, r.mono s⟩
  | _ => exact h.elim
/-- as a value, if it is seen -/
theorem OwnAt.rp {K : PySem.W.Frag} {cl : Cl} {O O' : List Addr} {H : Hp} {a : Addr} {d : D} (h : OwnAt K cl O H a d) (n : a ∉ O') (s : Same (hide O H) (hide O' H)) : Rp K cl (hide O' H) (.ref a) d := by
  cases d with
  | lst ds => obtain ⟨xs, e1, r⟩ := h; exact .lst (.inl (.inl (hide_some.mpr ⟨n, e1⟩))) (r.mono s)
  | dic ks ds => obtain ⟨xs, e1, q, r⟩ := h; exact .dic (.inl (hide_some.mpr ⟨n, e1⟩)) q (r.mono s)
  | obj c ds => obtain ⟨C, ns, dx, fvs, k, e1, q, r⟩ := h; exact .obj k (hide_some.mpr ⟨n, e1⟩) q (r.mono s)
  | _ => exact h.elim
/-- where the def stands: hidden addresses, the addresses that may be changed, the one that is the argument's, the heap at the entry -/
structure Wf where
  O0 : List Addr
  I : List Addr
  a0 : Addr
  H0 : Hp
structure StOK (K : PySem.W.Frag) (cl : Cl) (w : Wf) (L : List Addr) (H : Hp) (σ : L2.St) (sd : S) : Prop where
  val : ∀ (i : Nat) (d : D), sd[i]? = some (.val d) → ∃ v, σ[i]? = some (some v) ∧ Rp K cl (hide (L ++ w.O0) H) v d
  own : ∀ (i : Nat) (d : D), sd[i]? = some (.own d) → ∃ a, σ[i]? = some (some (.ref a)) ∧ a ∈ L ∧ OwnAt K cl (L ++ w.O0) H a d
  io : ∀ (i : Nat) (d : D), sd[i]? = some (.io d) → σ[i]? = some (some (.ref w.a0)) ∧ w.a0 ∈ w.I ∧ OwnAt K cl (L ++ w.O0) H w.a0 d
  inj : ∀ (i j : Nat) (d e : D) (a : Addr), sd[i]? = some (.own d) → sd[j]? = some (.own e) → σ[i]? = some (some (.ref a)) → σ[j]? = some (some (.ref a)) → i = j
  ioj : ∀ (i j : Nat) (d e : D), sd[i]? = some (.io d) → sd[j]? = some (.io e) → i = j
  len : σ.length = sd.length
/-- the state's meaning -/
structure Wl (K : PySem.W.Frag) (cl : Cl) (w : Wf) (L : List Addr) (sd : S) (σ : L2.St) (H : Hp) : Prop where
  keep : ∀ b o, b ∉ w.I → w.H0 b = some o → H b = some o
  fresh : ∀ a ∈ L, w.H0 a = none
  alive : ∀ a ∈ L ++ w.O0, H a ≠ none
  disj : ∀ a ∈ L, a ∉ w.O0
  sub : ∀ a ∈ w.I, a ∈ w.O0
  st : StOK K cl w L H σ sd
/-- from (L, H) on to (L', H') -/
structure Step (w : Wf) (L : List Addr) (H : Hp) (L' : List Addr) (H' : Hp) : Prop where
  keep : ∀ b o, b ∉ L → b ∉ w.I → H b = some o → H' b = some o
  alv : ∀ b, H b ≠ none → H' b ≠ none
  new : ∀ a ∈ L', a ∈ L ∨ H a = none
theorem Step.refl {w : Wf} {L : List Addr} {H : Hp} : Step w L H L H := ⟨fun _ _ _ _ e => e, fun _ e => e, fun _ h => .inl h⟩
theorem Step.trans {w : Wf} {L L1 L2 : List Addr} {H H1 H2 : Hp} (s : Step w L H L1 H1) (t : Step w L1 H1 L2 H2) : Step w L H L2 H2 := by
  refine ⟨fun b o h1 h2 e => t.keep b o (fun z => ?_) h2 (s.keep b o h1 h2 e), fun b e => t.alv b (s.alv b e), fun a ha => ?_⟩
  · rcases s.new b z with y | y
    · exact h1 y
    · rw [e] at y; cases y
  · rcases t.new a ha with y | y
    · exact s.new a y
    · refine .inr ?_
      cases q : H a with
      | none => rfl
      | some o => exact absurd y (s.alv a (by rw [q]; simp))
theorem Step.of_same {w : Wf} {L : List Addr} {H H' : Hp} (s : Same H H') : Step w L H L H' :=
  ⟨fun b o _ _ e => s b o e, fun b e => by
    cases q : H b with
    | none => exact absurd q e
    | some o => rw [s b o q]; simp, fun _ h => .inl h⟩
/-- what is seen stays -/
theorem Step.seen {w : Wf} {L L' : List Addr} {H H' : Hp} (s : Step w L H L' H') (hI : ∀ a ∈ w.I, a ∈ w.O0) : Same (hide (L ++ w.O0) H) (hide (L' ++ w.O0) H') := fun b o e => by
  obtain ⟨n, e⟩ := hide_some.mp e
  have n1 : b ∉ L := fun z => n (List.mem_append_left _ z)
  have n2 : b ∉ w.O0 := fun z => n (List.mem_append_right _ z)
  refine hide_some.mpr ⟨fun z => ?_, s.keep b o n1 (fun z => n2 (hI b z)) e⟩
  rcases List.mem_append.mp z with z | z
  · rcases s.new b z with y | y
    · exact n1 y
    · rw [e] at y; cases y
  · exact n2 z
section
variable {K : PySem.W.Frag} {cl : Cl} {w : Wf} {L : List Addr} {sd : S} {σ : L2.St} {H H' : Hp}
theorem Wl.io_ne (W : Wl K cl w L sd σ H) {a : Addr} (ha : a ∈ L) : a ∉ w.I := fun z => W.disj a ha (W.sub a z)
/-- the state stands where all objects stay -/
theorem Wl.ext (W : Wl K cl w L sd σ H) (s : Same H H') : Wl K cl w L sd σ H' := by
  have sh : Same (hide (L ++ w.O0) H) (hide (L ++ w.O0) H') := fun b o e =>
    let ⟨n, e⟩ := hide_some.mp e
    hide_some.mpr ⟨n, s b o e⟩
  have own : ∀ {a d}, OwnAt K cl (L ++ w.O0) H a d → OwnAt K cl (L ++ w.O0) H' a d := fun {a d} h => by
    refine h.move ?_ sh
    cases q : H a with
    | none => exact absurd q h.some
    | some o => exact s a o q
  refine ⟨fun b o n e => s b o (W.keep b o n e), W.fresh, fun a ha => ?_, W.disj, W.sub, ⟨fun i d e => ?_, fun i d e => ?_, fun i d e => ?_, W.st.inj, W.st.ioj, W.st.len⟩⟩
  · have := W.alive a ha
    cases q : H a with
    | none => exact absurd q this
    | some o => rw [s a o q]; simp
  · obtain ⟨v, h1, h2⟩ := W.st.val i d e
    exact ⟨v, h1, h2.mono sh⟩
  · obtain ⟨a, h1, h2, h3⟩ := W.st.own i d e
    exact ⟨a, h1, h2, own h3⟩
  · obtain ⟨h1, h2, h3⟩ := W.st.io i d e
    exact ⟨h1, h2, own h3⟩
/-- a new address -/
theorem Wl.new_ne (W : Wl K cl w L sd σ H) {p : Addr} (n : H p = none) : p ∉ L ++ w.O0 := fun z => W.alive p z n
theorem same_upd {H : Hp} {p : Addr} {o : HO} (n : H p = none) : Same H (upd H p o) := fun b u e => by
  rw [upd_ne (ne_of_none e n)]
  exact e
/-- a new list of the def's own -/
theorem Wl.made (W : Wl K cl w L sd σ H) {p : Addr} (s : Same H H') (n : H p = none) (e : H' p ≠ none) : Wl K cl w (p :: L) sd σ H' := by
  have W' := W.ext s
  have np := W.new_ne n
  have sh : Same (hide (L ++ w.O0) H) (hide (p :: L ++ w.O0) H') := fun b o z =>
    let ⟨n1, z⟩ := hide_some.mp z
    hide_some.mpr ⟨fun y => by
      rcases List.mem_cons.mp y with y | y
      · rw [y, n] at z; cases z
      · exact n1 y, s b o z⟩
  have own : ∀ {a d}, OwnAt K cl (L ++ w.O0) H a d → OwnAt K cl (p :: L ++ w.O0) H' a d := fun {a d} h => by
    refine h.move ?_ sh
    cases q : H a with
    | none => exact absurd q h.some
    | some o => exact s a o q
  refine ⟨W'.keep, fun a ha => ?_, fun a ha => ?_, fun a ha => ?_, W.sub, ⟨fun i d e => ?_, fun i d e => ?_, fun i d e => ?_, W.st.inj, W.st.ioj, W.st.len⟩⟩
  · (rcases List.mem_cons.mp ha with rfl | ha)
    · cases q : w.H0 a with
      | none => rfl
      | some o =>
        by_cases hI : a ∈ w.I
        · exact absurd (List.mem_append_right _ (W.sub a hI)) np
        · have := W.keep a o hI q
          rw [n] at this; cases this
    · exact W.fresh a ha
  · (rcases List.mem_cons.mp ha with rfl | ha)
    · exact e
    · exact W'.alive a ha
  · (rcases List.mem_cons.mp ha with rfl | ha)
    · exact fun z => np (List.mem_append_right _ z)
    · exact W.disj a ha
  · obtain ⟨v, h1, h2⟩ := W.st.val i d e
    exact ⟨v, h1, h2.mono sh⟩
  · obtain ⟨a, h1, h2, h3⟩ := W.st.own i d e
    exact ⟨a, h1, List.mem_cons_of_mem _ h2, own h3⟩
  · obtain ⟨h1, h2, h3⟩ := W.st.io i d e
    exact ⟨h1, h2, own h3⟩
/-- an own address is let go -/
theorem Wl.seen (W : Wl K cl w L sd σ H) : Same (hide (L ++ w.O0) H) (hide w.O0 H) := hide_sub fun _ h => List.mem_append_right _ h
end
end Dt
namespace Dt
open L2 PySem PySem.Spec PyProof.Rows
/-! ### readings by functions of the data -/
section
variable (K : PySem.W.Frag) (cl : Cl)
def PostE (w : Wf) (L : List Addr) (σ : L2.St) (H : Hp) (Q : VK) : M (D × S) → Prop
  | some (.ok (r, s')) => ∀ v H', Step w L H L H' → Wl K cl w L s' σ H' → Rp K cl (hide (L ++ w.O0) H') v r → Q v H'
  | _ => False
def PostT (w : Wf) (L : List Addr) (σ : L2.St) (H : Hp) (Q : Bool → Hp → Prop) : M (Bool × S) → Prop
  | some (.ok (r, s')) => ∀ H', Step w L H L H' → Wl K cl w L s' σ H' → Q r H'
  | _ => False
def PostA (w : Wf) (L : List Addr) (σ : L2.St) (H : Hp) (Q : List V → Hp → Prop) : M (List D × S) → Prop
  | some (.ok (r, s')) => ∀ v H', Step w L H L H' → Wl K cl w L s' σ H' → RpA K cl (hide (L ++ w.O0) H') v r → Q v H'
  | _ => False
/-- a new list: its items -/
def PostF (w : Wf) (L : List Addr) (σ : L2.St) (H : Hp) (Q : VK) : M (D × S) → Prop
  | some (.ok (r, s')) => ∀ p H', Step w L H (p :: L) H' → p ∉ L ++ w.O0 → Wl K cl w L s' σ H' → Wl K cl w (p :: L) s' σ H' → OwnAt K cl (p :: L ++ w.O0) H' p r → Q (.ref p) H'
  | _ => False
def TEof (f : S → M (D × S)) : TE := fun σ H Q => ∃ w L sd, Wl K cl w L sd σ H ∧ PostE K cl w L σ H Q (f sd)
def TTof (f : S → M (Bool × S)) : TT := fun σ H Q => ∃ w L sd, Wl K cl w L sd σ H ∧ PostT K cl w L σ H Q (f sd)
def TAof (f : S → M (List D × S)) : TA := fun σ H Q => ∃ w L sd, Wl K cl w L sd σ H ∧ PostA K cl w L σ H Q (f sd)
def TFof (f : S → M (D × S)) : TE := fun σ H Q => ∃ w L sd, Wl K cl w L sd σ H ∧ PostF K cl w L σ H Q (f sd)
/-- a value's end: it may have made objects -/
def Fin1 (O : List Addr) (H : Hp) (Q : VK) : M D → Prop
  | some (.ok r) => ∀ v H', Same H H' → Rp K cl (hide O H') v r → Q v H'
  | _ => False
end
section
variable {K : PySem.W.Frag} {cl : Cl} {w : Wf} {L : List Addr} {σ : L2.St} {H H1 H2 : Hp} {Q : VK} {s s1 s2 : S}
/-- the end of a failure -/
structure Bot {β : Type} (P : M β → Prop) : Prop where
  no : P none → False
  ex : ∀ e, P (some (.ex e)) → False
theorem botE : Bot (PostE K cl w L σ H Q) := ⟨fun h => h, fun _ h => h⟩
theorem botT {Q : Bool → Hp → Prop} : Bot (PostT K cl w L σ H Q) := ⟨fun h => h, fun _ h => h⟩
theorem botA {Q : List V → Hp → Prop} : Bot (PostA K cl w L σ H Q) := ⟨fun h => h, fun _ h => h⟩
theorem botF : Bot (PostF K cl w L σ H Q) := ⟨fun h => h, fun _ h => h⟩
theorem PostE.bd {m : M (D × S)} {β : Type} {P : M β → Prop} (hb : Bot P) {f : D × S → M β} (h : P (bd m f)) {C : VK}
    (k : ∀ r s1, P (f (r, s1)) → ∀ v H1, Step w L H L H1 → Wl K cl w L s1 σ H1 → Rp K cl (hide (L ++ w.O0) H1) v r → C v H1) : PostE K cl w L σ H C m := by
  match m, h with
  | none, h => exact (hb.no h).elim
  | some (.ex e), h => exact (hb.ex e h).elim
  | some (.ok (r, s1)), h => exact fun v H1 a b c => k r s1 h v H1 a b c
theorem PostT.bd {m : M (Bool × S)} {β : Type} {P : M β → Prop} (hb : Bot P) {f : Bool × S → M β} (h : P (bd m f)) {C : Bool → Hp → Prop}
    (k : ∀ r s1, P (f (r, s1)) → ∀ H1, Step w L H L H1 → Wl K cl w L s1 σ H1 → C r H1) : PostT K cl w L σ H C m := by
  match m, h with
  | none, h => exact (hb.no h).elim
  | some (.ex e), h => exact (hb.ex e h).elim
  | some (.ok (r, s1)), h => exact fun H1 a b => k r s1 h H1 a b
theorem PostA.bd {m : M (List D × S)} {β : Type} {P : M β → Prop} (hb : Bot P) {f : List D × S → M β} (h : P (bd m f)) {C : List V → Hp → Prop}
    (k : ∀ r s1, P (f (r, s1)) → ∀ v H1, Step w L H L H1 → Wl K cl w L s1 σ H1 → RpA K cl (hide (L ++ w.O0) H1) v r → C v H1) : PostA K cl w L σ H C m := by
  match m, h with
  | none, h => exact (hb.no h).elim
  | some (.ex e), h => exact (hb.ex e h).elim
  | some (.ok (r, s1)), h => exact fun v H1 a b c => k r s1 h v H1 a b c
theorem PostF.bd {m : M (D × S)} {β : Type} {P : M β → Prop} (hb : Bot P) {f : D × S → M β} (h : P (bd m f)) {C : VK}
    (k : ∀ r s1, P (f (r, s1)) → ∀ p H1, Step w L H (p :: L) H1 → p ∉ L ++ w.O0 → Wl K cl w L s1 σ H1 → Wl K cl w (p :: L) s1 σ H1 → OwnAt K cl (p :: L ++ w.O0) H1 p r → C (.ref p) H1) : PostF K cl w L σ H C m := by
  match m, h with
  | none, h => exact (hb.no h).elim
  | some (.ex e), h => exact (hb.ex e h).elim
  | some (.ok (r, s1)), h => exact fun v H1 a b c d e => k r s1 h v H1 a b c d e
/-- a pure end -/
theorem PostE.fin {m : M D} (h : PostE K cl w L σ H Q (Dt.bd m fun r => ok (r, s2))) (st : Step w L H L H2) (W : Wl K cl w L s2 σ H2) : Fin1 K cl (L ++ w.O0) H2 Q m := by
  match m, h with
  | none, h => exact h.elim
  | some (.ex e), h => exact h.elim
  | some (.ok r), h => exact fun v H3 sm rp => h v H3 (st.trans (.of_same sm)) (W.ext sm) rp
theorem Step.sn (W : Wl K cl w L s σ H) (st : Step w L H1 L H2) : Same (hide (L ++ w.O0) H1) (hide (L ++ w.O0) H2) := st.seen W.sub
theorem iE {X : Cx} {e : Expr} {t t' : TE} (h : PE X e t) (k : ∀ σ H Q, t' σ H Q → t σ H Q) : PE X e t' := ⟨fun pins s σ H Q I q => h.run pins s σ H Q I (k σ H Q q)⟩
theorem iT {X : Cx} {e : Expr} {t t' : TT} (h : PT X e t) (k : ∀ σ H Q, t' σ H Q → t σ H Q) : PT X e t' := ⟨fun pins s σ H Q I q => h.run pins s σ H Q I (k σ H Q q)⟩
theorem iW {X : Cx} {e : Expr} {t t' : TT} (h : PW X e t) (k : ∀ σ H Q, t' σ H Q → t σ H Q) : PW X e t' := ⟨fun wh pins s σ H Q I q => h.run wh pins s σ H Q I (k σ H Q q)⟩
theorem iA {X : Cx} {e : List Expr} {t t' : TA} (h : PA X e t) (k : ∀ σ H Q, t' σ H Q → t σ H Q) : PA X e t' := ⟨fun pos pins s σ H Q I q => h.run pos pins s σ H Q I (k σ H Q q)⟩
theorem iK {X : Cx} {e : List Keyword} {t t' : TA} (h : PK X e t) (k : ∀ σ H Q, t' σ H Q → t σ H Q) : PK X e t' := ⟨fun pos pins s σ H Q I q => h.run pos pins s σ H Q I (k σ H Q q)⟩
theorem iS {X : Cx} {e : Stmt} {t t' : TS} (h : PS X e t) (k : ∀ D σ H, t' D σ H → t D σ H) : PS X e t' := ⟨fun pins s σ H D I q => h.run pins s σ H D I (k D σ H q)⟩
theorem iSs {X : Cx} {e : List Stmt} {t t' : TS} (h : PSs X e t) (k : ∀ D σ H, t' D σ H → t D σ H) : PSs X e t' := ⟨fun pins s σ H D I q => h.run pins s σ H D I (k D σ H q)⟩
end
/-! ### names, constants -/
def dVar (i : Nat) : S → M (D × S) := fun s => match s[i]? with
  | some (.val d) => ok (d, s)
  | _ => none
def dC (d : D) : S → M (D × S) := fun s => ok (d, s)
section
variable {X : Cx} {K : PySem.W.Frag} {cl : Cl} {pos : Pos}
theorem d_var (i : Nat) {x : Str} (hN : X.N[i]? = some x := by rfl) (hv : Vis X.env.scope x := by first | exact Or.inl rfl | exact Or.inr (Or.inl rfl) | exact Or.inr (Or.inr rfl))
    (hd : (x == ("__debug__" : Str)) = false := by decide) (hcd : (x == ("__classdict__" : Str)) = false := by decide) : PE X (.Name x pos) (TEof K cl (dVar i)) := by
  refine iE (pe_var hN hv hd hcd) ?_
  rintro σ H Q ⟨w, L, sd, W, h⟩
  unfold dVar at h
  split at h
  · next d e =>
    obtain ⟨v, h1, h2⟩ := W.st.val i d e
    exact ⟨v, h1, h v H .refl W h2⟩
  · exact h.elim
theorem dC_of {e : Expr} {v : V} {d : D} (h : PE X e (tC v)) (r : ∀ H : Hp, Rp K cl H v d) : PE X e (TEof K cl (dC d)) := by
  refine iE h ?_
  rintro σ H Q ⟨w, L, sd, W, h⟩
  exact h v H .refl W (r _)
theorem d_int {i j} : PE X (.Constant (.int i) j pos) (TEof K cl (dC (.int i))) := dC_of pe_int fun _ => .int i
theorem d_bl {b j} : PE X (.Constant (.bool b) j pos) (TEof K cl (dC (.bl b))) := dC_of pe_bl fun _ => .bl b
theorem d_non {j} : PE X (.Constant .none j pos) (TEof K cl (dC .non)) := dC_of pe_non fun _ => .non
theorem d_str {x j} : PE X (.Constant (.str x) j pos) (TEof K cl (dC (.str x))) := dC_of pe_str fun _ => .str x
end
/-! ### operators -/
abbrev Op2 := D → D → M D
def dBin (g : Op2) (fa fb : S → M (D × S)) : S → M (D × S) := fun s => bd (fa s) fun p => bd (fb p.2) fun q => bd (g p.1 q.1) fun r => ok (r, q.2)
/-- g tells what r does -/
def OpD (K : PySem.W.Frag) (cl : Cl) (r : R2) (g : Op2) : Prop := ∀ (O : List Addr) (H : Hp) (x y : V) (d e : D) (Q : VK), (∀ a ∈ O, H a ≠ none) → Rp K cl (hide O H) x d → Rp K cl (hide O H) y e → Fin1 K cl O H Q (g d e) → r x y H Q
structure OpK (X : Cx) (K : PySem.W.Frag) (cl : Cl) (f : Value → Value → Sem Value) (g : Op2) : Prop where
  it : ∃ r, OpR X f r ∧ OpD K cl r g
section
variable {X : Cx} {K : PySem.W.Frag} {cl : Cl} {pos : Pos} {a b : Expr} {fa fb : S → M (D × S)} {g : Op2}
theorem bin_read {r : R2} (hd : OpD K cl r g) : ∀ σ H Q, TEof K cl (dBin g fa fb) σ H Q → tOp r (TEof K cl fa) (TEof K cl fb) σ H Q := by
  rintro σ H Q ⟨w, L, sd, W, h⟩
  refine ⟨w, L, sd, W, PostE.bd botE h fun x s1 h v H1 st1 W1 rx => ?_⟩
  refine ⟨w, L, s1, W1, PostE.bd botE h fun y s2 h u H2 st2 W2 ry => ?_⟩
  exact hd (L ++ w.O0) H2 v u x y Q W2.alive (rx.mono (st2.sn W2)) ry (h.fin (st1.trans st2) W2)
theorem d_op {op : Operator} (ho : OpK X K cl (binaryOp op) g) (ha : PE X a (TEof K cl fa)) (hb : PE X b (TEof K cl fb)) : PE X (.BinOp a op b pos) (TEof K cl (dBin g fa fb)) := by
  obtain ⟨r, h1, h2⟩ := ho.it
  exact iE (pe_op h1 ha hb) (bin_read h2)
theorem d_cmp {op : CmpOp} (ho : OpK X K cl (compareOp op) g) (ha : PE X a (TEof K cl fa)) (hb : PE X b (TEof K cl fb)) (hm : behindInMarks op b = false := by first | exact nomark _ | rfl) : PE X (.Compare a [op] [b] pos) (TEof K cl (dBin g fa fb)) := by
  obtain ⟨r, h1, h2⟩ := ho.it
  exact iE (pe_cmpR h1 ha hb hm) (bin_read h2)
end
end Dt
namespace Dt
open L2 PySem PySem.Spec PyProof.Rows
/-! ### operators of ints -/
def mulOk (i j : Int) : Prop := (-(2 ^ 64) < i ∧ i < 2 ^ 64) ∨ (-(2 ^ 64) < j ∧ j < 2 ^ 64) ∨ i.natAbs.log2 + j.natAbs.log2 < 1000000
instance (i j : Int) : Decidable (mulOk i j) := by unfold mulOk; infer_instance
def divOk (j : Int) : Prop := 0 < j ∧ j.natAbs.log2 < 9000
instance (j : Int) : Decidable (divOk j) := by unfold divOk; infer_instance
def powOk (i j : Int) : Prop := 0 ≤ j ∧ j ≤ 1000000 ∧ i.natAbs < 2 ^ 64
instance (i j : Int) : Decidable (powOk i j) := by unfold powOk; infer_instance
def addI : Op2 := fun d e => match d, e with
  | .int i, .int j => ok (.int (i + j))
  | _, _ => none
def subI : Op2 := fun d e => match d, e with
  | .int i, .int j => ok (.int (i - j))
  | _, _ => none
def mulI : Op2 := fun d e => match d, e with
  | .int i, .int j => if mulOk i j then ok (.int (i * j)) else none
  | _, _ => none
def divI : Op2 := fun d e => match d, e with
  | .int i, .int j => if divOk j then ok (.int (i / j)) else none
  | _, _ => none
def modI : Op2 := fun d e => match d, e with
  | .int i, .int j => if 0 < j then ok (.int (i % j)) else none
  | _, _ => none
def powI : Op2 := fun d e => match d, e with
  | .int i, .int j => if powOk i j then ok (.int (i ^ j.toNat)) else none
  | _, _ => none
def ltI : Op2 := fun d e => match d, e with
  | .int i, .int j => ok (.bl (decide (i < j)))
  | _, _ => none
def leI : Op2 := fun d e => match d, e with
  | .int i, .int j => ok (.bl (decide (i ≤ j)))
  | _, _ => none
def gtI : Op2 := fun d e => match d, e with
  | .int i, .int j => ok (.bl (decide (j < i)))
  | _, _ => none
def geI : Op2 := fun d e => match d, e with
  | .int i, .int j => ok (.bl (decide (j ≤ i)))
  | _, _ => none
section
variable {X : Cx} {K : PySem.W.Frag} {cl : Cl}
theorem Fin1.now {O : List Addr} {H : Hp} {Q : VK} {d : D} {v : V} (h : Fin1 K cl O H Q (ok d)) (r : Rp K cl (hide O H) v d) : Q v H := h v H (Same.refl H) r
/-- two ints, a condition -/
theorem opk_int {f : Value → Value → Sem Value} {C : Int → Int → Prop} {g : Int → Int → V} {g' : Int → Int → D} {op : Op2} (ho : OpR X f (rI C g)) (hr : ∀ i j (H : Hp), Rp K cl H (g i j) (g' i j))
    (h1 : ∀ d e, (∃ i j, d = .int i ∧ e = .int j ∧ ((C i j ∧ op d e = ok (g' i j)) ∨ op d e = none)) ∨ op d e = none) : OpK X K cl f op := by
  refine ⟨_, ho, fun O H x y d e Q _ rx ry h => ?_⟩
  rcases h1 d e with ⟨i, j, rfl, rfl, ⟨hc, e1⟩ | e1⟩ | e1
  · rw [e1] at h
    cases rx
    cases ry
    exact ⟨i, j, rfl, rfl, hc, h.now (hr i j _)⟩
  · rw [e1] at h
    exact h.elim
  · rw [e1] at h
    exact h.elim
theorem opk_int0 {f : Value → Value → Sem Value} {g : Int → Int → V} {g' : Int → Int → D} {op : Op2} (ho : OpR X f (rI0 g)) (hr : ∀ i j (H : Hp), Rp K cl H (g i j) (g' i j))
    (h1 : ∀ d e, (∃ i j, d = .int i ∧ e = .int j ∧ op d e = ok (g' i j)) ∨ op d e = none) : OpK X K cl f op := by
  refine ⟨_, ho, fun O H x y d e Q _ rx ry h => ?_⟩
  rcases h1 d e with ⟨i, j, rfl, rfl, e1⟩ | e1
  · rw [e1] at h
    cases rx
    cases ry
    exact ⟨i, j, rfl, rfl, h.now (hr i j _)⟩
  · rw [e1] at h
    exact h.elim
theorem two_ints {op : Op2} {g' : Int → Int → D} (h : ∀ i j, op (.int i) (.int j) = ok (g' i j)) (h2 : ∀ d e, (∀ i j, ¬ (d = .int i ∧ e = .int j)) → op d e = none) : ∀ d e, (∃ i j, d = .int i ∧ e = .int j ∧ op d e = ok (g' i j)) ∨ op d e = none := fun d e => by
  by_cases q : ∃ i j, d = .int i ∧ e = .int j
  · obtain ⟨i, j, rfl, rfl⟩ := q
    exact .inl ⟨i, j, rfl, rfl, h i j⟩
  · exact .inr (h2 d e fun i j z => q ⟨i, j, z⟩)
theorem two_intsC {op : Op2} {C : Int → Int → Prop} {g' : Int → Int → D} (h : ∀ i j, (C i j ∧ op (.int i) (.int j) = ok (g' i j)) ∨ op (.int i) (.int j) = none) (h2 : ∀ d e, (∀ i j, ¬ (d = .int i ∧ e = .int j)) → op d e = none) :
    ∀ d e, (∃ i j, d = .int i ∧ e = .int j ∧ ((C i j ∧ op d e = ok (g' i j)) ∨ op d e = none)) ∨ op d e = none := fun d e => by
  by_cases q : ∃ i j, d = .int i ∧ e = .int j
  · obtain ⟨i, j, rfl, rfl⟩ := q
    exact .inl ⟨i, j, rfl, rfl, h i j⟩
  · exact .inr (h2 d e fun i j z => q ⟨i, j, z⟩)
theorem k_add : OpK X K cl (binaryOp .Add) addI := opk_int0 op_add (fun _ _ _ => .int _) (two_ints (fun _ _ => rfl) fun d e h => by
  cases d <;> cases e <;> first | rfl | exact absurd ⟨rfl, rfl⟩ (h _ _))
theorem k_sub : OpK X K cl (binaryOp .Sub) subI := opk_int0 op_sub (fun _ _ _ => .int _) (two_ints (fun _ _ => rfl) fun d e h => by
  cases d <;> cases e <;> first | rfl | exact absurd ⟨rfl, rfl⟩ (h _ _))
theorem k_lt : OpK X K cl (compareOp .Lt) ltI := opk_int0 op_lt (fun _ _ _ => .bl _) (two_ints (fun _ _ => rfl) fun d e h => by
  cases d <;> cases e <;> first | rfl | exact absurd ⟨rfl, rfl⟩ (h _ _))
theorem k_le : OpK X K cl (compareOp .LtE) leI := opk_int0 op_le (fun _ _ _ => .bl _) (two_ints (fun _ _ => rfl) fun d e h => by
  cases d <;> cases e <;> first | rfl | exact absurd ⟨rfl, rfl⟩ (h _ _))
theorem k_gt : OpK X K cl (compareOp .Gt) gtI := opk_int0 op_gt (fun _ _ _ => .bl _) (two_ints (fun _ _ => rfl) fun d e h => by
  cases d <;> cases e <;> first | rfl | exact absurd ⟨rfl, rfl⟩ (h _ _))
theorem k_ge : OpK X K cl (compareOp .GtE) geI := opk_int0 op_ge (fun _ _ _ => .bl _) (two_ints (fun _ _ => rfl) fun d e h => by
  cases d <;> cases e <;> first | rfl | exact absurd ⟨rfl, rfl⟩ (h _ _))
theorem mulOk.ok {i j : Int} (h : mulOk i j) : IntMulOk i j := by
  rcases h with h | h | h
  · exact CMul.ok (.inl h)
  · exact CMul.ok (.inr h)
  · exact CMulW.ok h
theorem o_mul : OpR X (binaryOp .Mult) (rI mulOk fun i j => .int (i * j)) := opI fun _ _ _ _ _ _ _ hc q => mul_int q hc.ok
theorem o_pow : OpR X (binaryOp .Pow) (rI powOk fun i j => .int (i ^ j.toNat)) := op_pow
theorem o_div : OpR X (binaryOp .FloorDiv) (rI (fun _ j => divOk j) fun i j => .int (i / j)) := op_fdivW
theorem k_mul : OpK X K cl (binaryOp .Mult) mulI := opk_int o_mul (fun _ _ _ => .int _) (two_intsC (fun i j => by
    by_cases h : mulOk i j
    · exact .inl ⟨h, by unfold mulI; simp [h]⟩
    · exact .inr (by unfold mulI; simp [h])) fun d e h => by
  cases d <;> cases e <;> first | rfl | exact absurd ⟨rfl, rfl⟩ (h _ _))
theorem k_div : OpK X K cl (binaryOp .FloorDiv) divI := opk_int o_div (fun _ _ _ => .int _) (two_intsC (fun i j => by
    by_cases h : divOk j
    · exact .inl ⟨h, by unfold divI; simp [h]⟩
    · exact .inr (by unfold divI; simp [h])) fun d e h => by
  cases d <;> cases e <;> first | rfl | exact absurd ⟨rfl, rfl⟩ (h _ _))
theorem k_mod : OpK X K cl (binaryOp .Mod) modI := opk_int op_mod (fun _ _ _ => .int _) (two_intsC (fun i j => by
    by_cases h : 0 < j
    · exact .inl ⟨h, by unfold modI; simp [h]⟩
    · exact .inr (by unfold modI; simp [h])) fun d e h => by
  cases d <;> cases e <;> first | rfl | exact absurd ⟨rfl, rfl⟩ (h _ _))
theorem k_pow : OpK X K cl (binaryOp .Pow) powI := opk_int o_pow (fun _ _ _ => .int _) (two_intsC (fun i j => by
    by_cases h : powOk i j
    · exact .inl ⟨h, by unfold powI; simp [h]⟩
    · exact .inr (by unfold powI; simp [h])) fun d e h => by
  cases d <;> cases e <;> first | rfl | exact absurd ⟨rfl, rfl⟩ (h _ _))
end
/-! ### equality: flat values, None, data -/
mutual
/-- plain data as the model's -/
def D.py : D → PyData
  | .non => .none
  | .bl b => .bool b
  | .int i => .int i
  | .str x => .str x
  | .lst xs => .list (D.pys xs)
  | .tup xs => .tuple (D.pys xs)
  | .obj _ _ => .none
  | .dic _ _ => .none
def D.pys : List D → List PyData
  | [] => []
  | x :: xs => D.py x :: D.pys xs
end
mutual
/-- no objects, no dicts within -/
def D.plain : D → Bool
  | .non => true
  | .bl _ => true
  | .int _ => true
  | .str _ => true
  | .lst xs => D.plains xs
  | .tup xs => D.plains xs
  | .obj _ _ => false
  | .dic _ _ => false
def D.plains : List D → Bool
  | [] => true
  | x :: xs => D.plain x && D.plains xs
end
mutual
theorem rp_dp {K : PySem.W.Frag} {cl : Cl} {H : Hp} : ∀ (d : D) (v : V), Rp K cl H v d → d.plain = true → Dp K H v d.py
  | .non, _, h, _ => by cases h; rw [D.py]; exact .non
  | .bl b, _, h, _ => by cases h; rw [D.py]; exact .bl b
  | .int i, _, h, _ => by cases h; rw [D.py]; exact .int i
  | .str x, _, h, _ => by cases h; rw [D.py]; exact .str x
  | .lst ds, _, h, p => by
    cases h with
    | lst h r =>
      rw [D.plain] at p
      rw [D.py]
      exact .lst h (rps_dp ds _ r p)
  | .tup ds, _, h, p => by
    cases h with
    | tup h r =>
      rw [D.plain] at p
      rw [D.py]
      exact .tup h (rps_dp ds _ r p)
  | .obj _ _, _, _, p => by rw [D.plain] at p; cases p
  | .dic _ _, _, _, p => by rw [D.plain] at p; cases p
theorem rps_dp {K : PySem.W.Frag} {cl : Cl} {H : Hp} : ∀ (ds : List D) (vs : List V), RpA K cl H vs ds → D.plains ds = true → DpAll K H vs (D.pys ds)
  | [], _, h, _ => by cases h; rw [D.pys]; exact .nil
  | d :: ds, _, h, p => by
    cases h with
    | cons a r =>
      rw [D.plains] at p
      have p' := Bool.and_eq_true_iff.mp p
      rw [D.pys]
      exact .cons (rp_dp d _ a p'.1) (rps_dp ds _ r p'.2)
end
mutual
theorem dp_mono {K : PySem.W.Frag} {H H' : Hp} (s : Same H H') : ∀ {v : V} {d : PyData}, Dp K H v d → Dp K H' v d
  | _, _, .non => .non
  | _, _, .bl b => .bl b
  | _, _, .int i => .int i
  | _, _, .str x => .str x
  | _, _, .lst h r => .lst (s.seq h) (dps_mono s r)
  | _, _, .tup h r => .tup (same_sqT s h) (dps_mono s r)
theorem dps_mono {K : PySem.W.Frag} {H H' : Hp} (s : Same H H') : ∀ {vs : List V} {ds : List PyData}, DpAll K H vs ds → DpAll K H' vs ds
  | _, _, .nil => .nil
  | _, _, .cons a r => .cons (dp_mono s a) (dps_mono s r)
end
theorem Rp.dp {K : PySem.W.Frag} {cl : Cl} {O : List Addr} {H : Hp} {v : V} {d : D} (h : Rp K cl (hide O H) v d) (p : d.plain = true) : Dp K H v d.py := dp_mono hide_le (rp_dp d v h p)
/-- == of plain data -/
def eqD : Op2 := fun d e => if d.plain && e.plain && SeqAt.shaped d.py && SeqAt.shaped e.py then ok (.bl (PyData.eqv d.py e.py)) else none
def neD : Op2 := fun d e => if d.plain && e.plain && SeqAt.shaped d.py && SeqAt.shaped e.py then ok (.bl (!PyData.eqv d.py e.py)) else none
def isNon : Op2 := fun d e => match d, e with
  | .non, .non => ok (.bl true)
  | _, .non => ok (.bl false)
  | _, _ => none
def notNon : Op2 := fun d e => match d, e with
  | .non, .non => ok (.bl false)
  | _, .non => ok (.bl true)
  | _, _ => none
/-- x in xs, plain data -/
def inD : Op2 := fun d e => match e with
  | .lst xs => if d.plain && D.plains xs && SeqAt.shaped d.py && SeqAt.shaped (.list (D.pys xs)) then ok (.bl ((D.pys xs).any fun z => PyData.eqv z d.py)) else none
  | _ => none
def ninD : Op2 := fun d e => match e with
  | .lst xs => if d.plain && D.plains xs && SeqAt.shaped d.py && SeqAt.shaped (.list (D.pys xs)) then ok (.bl (!(D.pys xs).any fun z => PyData.eqv z d.py)) else none
  | _ => none
section
variable {X : Cx} {cl : Cl}
theorem k_eqD (hu : X.A.units + 64 < cLine) : OpK X X.K cl (compareOp .Eq) eqD := by
  refine ⟨_, op_eqD hu, fun O H x y d e Q _ rx ry h => ?_⟩
  unfold eqD at h
  split at h
  · next c =>
    simp only [Bool.and_eq_true] at c
    obtain ⟨⟨⟨c1, c2⟩, c3⟩, c4⟩ := c
    exact ⟨d.py, e.py, rx.dp c1, ry.dp c2, c3, c4, h.now (.bl _)⟩
  · exact h.elim
theorem k_neD (hu : X.A.units + 64 < cLine) : OpK X X.K cl (compareOp .NotEq) neD := by
  refine ⟨_, op_neD hu, fun O H x y d e Q _ rx ry h => ?_⟩
  unfold neD at h
  split at h
  · next c =>
    simp only [Bool.and_eq_true] at c
    obtain ⟨⟨⟨c1, c2⟩, c3⟩, c4⟩ := c
    exact ⟨d.py, e.py, rx.dp c1, ry.dp c2, c3, c4, h.now (.bl _)⟩
  · exact h.elim
theorem k_inD (hu : X.A.units + 65 < cLine) : OpK X X.K cl (compareOp .In) inD := by
  refine ⟨_, op_inD hu, fun O H x y d e Q _ rx ry h => ?_⟩
  unfold inD at h
  split at h
  · next xs =>
    split at h
    · next c =>
      simp only [Bool.and_eq_true] at c
      obtain ⟨⟨⟨c1, c2⟩, c3⟩, c4⟩ := c
      exact ⟨d.py, D.pys xs, rx.dp c1, by have q := ry.dp (by rw [D.plain]; exact c2); rw [D.py] at q; exact q, c3, c4, h.now (.bl _)⟩
    · exact h.elim
  · exact h.elim
theorem k_ninD (hu : X.A.units + 65 < cLine) : OpK X X.K cl (compareOp .NotIn) ninD := by
  refine ⟨_, op_notInD hu, fun O H x y d e Q _ rx ry h => ?_⟩
  unfold ninD at h
  split at h
  · next xs =>
    split at h
    · next c =>
      simp only [Bool.and_eq_true] at c
      obtain ⟨⟨⟨c1, c2⟩, c3⟩, c4⟩ := c
      exact ⟨d.py, D.pys xs, rx.dp c1, by have q := ry.dp (by rw [D.plain]; exact c2); rw [D.py] at q; exact q, c3, c4, h.now (.bl _)⟩
    · exact h.elim
  · exact h.elim
theorem k_is {K : PySem.W.Frag} : OpK X K cl (compareOp .Is) isNon := by
  refine ⟨_, op_isN, fun O H x y d e Q _ rx ry h => ?_⟩
  cases e with
  | non =>
    cases ry
    refine ⟨rfl, ?_⟩
    cases rx <;> exact h.now (.bl _)
  | _ => cases d <;> exact h.elim
theorem k_isnot {K : PySem.W.Frag} : OpK X K cl (compareOp .IsNot) notNon := by
  refine ⟨_, op_notN, fun O H x y d e Q _ rx ry h => ?_⟩
  cases e with
  | non =>
    cases ry
    refine ⟨rfl, ?_⟩
    cases rx <;> exact h.now (.bl _)
  | _ => cases d <;> exact h.elim
end
end Dt
namespace Dt
open L2 PySem PySem.Spec PyProof.Rows
/-! ### tests -/
/-- a bool value as a test -/
def dTst (f : S → M (D × S)) : S → M (Bool × S) := fun s => bd (f s) fun p => match p.1 with
  | .bl b => ok (b, p.2)
  | _ => none
/-- truth of any value -/
def truD : D → M Bool
  | .non => ok false
  | .bl b => ok b
  | .int i => ok (i != 0)
  | .str x => if x.length ≤ sizeLine then ok ((x.length : Int) != 0) else none
  | .lst xs => ok (!xs.isEmpty)
  | .tup xs => ok (!xs.isEmpty)
  | _ => none
def dTru (f : S → M (D × S)) : S → M (Bool × S) := fun s => bd (f s) fun p => bd (truD p.1) fun b => ok (b, p.2)
def dAnd (fa fb : S → M (Bool × S)) : S → M (Bool × S) := fun s => bd (fa s) fun p => if p.1 = true then fb p.2 else ok (false, p.2)
def dOr (fa fb : S → M (Bool × S)) : S → M (Bool × S) := fun s => bd (fa s) fun p => if p.1 = true then ok (true, p.2) else fb p.2
def dNot (fa : S → M (Bool × S)) : S → M (Bool × S) := fun s => bd (fa s) fun p => ok (!p.1, p.2)
/-- and, or, not as values (bools) -/
def vAnd (fa fb : S → M (D × S)) : S → M (D × S) := fun s => bd (fa s) fun p => match p.1 with
  | .bl b => if b = true then fb p.2 else ok (.bl false, p.2)
  | _ => none
def vOr (fa fb : S → M (D × S)) : S → M (D × S) := fun s => bd (fa s) fun p => match p.1 with
  | .bl b => if b = true then ok (.bl true, p.2) else fb p.2
  | _ => none
def vNot (fa : S → M (D × S)) : S → M (D × S) := fun s => bd (fa s) fun p => match p.1 with
  | .bl b => ok (.bl (!b), p.2)
  | _ => none
def dIf (ft : S → M (Bool × S)) (fa fb : S → M (D × S)) : S → M (D × S) := fun s => bd (ft s) fun p => if p.1 = true then fa p.2 else fb p.2
section
variable {X : Cx} {K : PySem.W.Frag} {cl : Cl} {pos : Pos} {a b c e : Expr} {rest : List Expr} {fa fb : S → M (D × S)} {ta tb tc : S → M (Bool × S)}
theorem tst_read : ∀ σ H Q, TTof K cl (dTst fa) σ H Q → tB (TEof K cl fa) σ H Q := by
  rintro σ H Q ⟨w, L, sd, W, h⟩
  refine ⟨w, L, sd, W, PostE.bd botT h fun r s1 h v H1 st1 W1 rr => ?_⟩
  cases r with
  | bl b =>
    cases rr
    exact ⟨b, rfl, h H1 st1 W1⟩
  | _ => exact h.elim
/-- a test by its value -/
theorem d_tst (h : PE X e (TEof K cl fa)) (he : ∀ whole, isTrue e X.env whole = (do let v ← whole; standAt e.pos; holding [v] (truthy v)) := by intro _; rfl) : PT X e (TTof K cl (dTst fa)) := iT (pt_val h he) tst_read
theorem d_tcmp {op : CmpOp} {g : Op2} (ho : OpK X K cl (compareOp op) g) (ha : PE X a (TEof K cl fa)) (hb : PE X b (TEof K cl fb)) (hm : behindInMarks op b = false := by first | exact nomark _ | rfl) : PT X (.Compare a [op] [b] pos) (TTof K cl (dTst (dBin g fa fb))) := by
  obtain ⟨r, h1, h2⟩ := ho.it
  refine iT (pt_cmpR h1 ha hb hm) fun σ H Q h => ?_
  obtain ⟨w, L, sd, W, h⟩ := h
  refine bin_read h2 σ H _ ⟨w, L, sd, W, PostE.bd botT h fun r s1 h v H1 st1 W1 rr => ?_⟩
  cases r with
  | bl b =>
    cases rr
    exact ⟨b, rfl, h H1 st1 W1⟩
  | _ => exact h.elim
theorem truV_of {H : Hp} {O : List Addr} {v : V} {d : D} {b : Bool} (r : Rp K cl (hide O H) v d) (h : truD d = ok b) : TruV K v H b := by
  cases r with
  | non => cases h; rfl
  | bl b => cases h; rfl
  | int i => cases h; rfl
  | str x =>
    have h : (if x.length ≤ sizeLine then ok ((x.length : Int) != 0) else none) = ok b := h
    by_cases c : x.length ≤ sizeLine
    · rw [if_pos c] at h; cases h; exact ⟨c, rfl⟩
    · rw [if_neg c] at h; cases h
  | lst s r =>
    cases h
    refine .inl ⟨_, hide_le.seq s, ?_⟩
    cases r <;> rfl
  | tup s r =>
    cases h
    refine .inr (.inl ⟨_, same_sqT hide_le s, ?_⟩)
    cases r <;> rfl
  | obj _ _ _ _ => cases h
  | dic _ _ _ => cases h
theorem d_tru (h : PE X e (TEof X.K cl fa)) (he : ∀ whole, isTrue e X.env whole = (do let v ← whole; standAt e.pos; holding [v] (truthy v)) := by intro _; rfl) : PT X e (TTof X.K cl (dTru fa)) := by
  refine iT (pt_truth h he) ?_
  rintro σ H Q ⟨w, L, sd, W, h⟩
  refine ⟨w, L, sd, W, PostE.bd botT h fun r s1 h v H1 st1 W1 rr => ?_⟩
  generalize e1 : truD r = m at h
  match m, h with
  | none, h => exact h.elim
  | some (.ex _), h => exact h.elim
  | some (.ok b), h => exact ⟨b, truV_of rr e1, h H1 st1 W1⟩
theorem and_read : ∀ σ H Q, TTof K cl (dAnd ta tb) σ H Q → tAnd (TTof K cl ta) (TTof K cl tb) σ H Q := by
  rintro σ H Q ⟨w, L, sd, W, h⟩
  refine ⟨w, L, sd, W, PostT.bd botT h fun r s1 h H1 st1 W1 => ?_⟩
  cases r with
  | true =>
    refine iteT ⟨w, L, s1, W1, ?_⟩
    match (tb s1 : M (Bool × S)), h with
    | none, h => exact h.elim
    | some (.ex _), h => exact h.elim
    | some (.ok (b, s2)), h => exact fun H2 st2 W2 => h H2 (st1.trans st2) W2
  | false => exact iteF (h H1 st1 W1)
theorem or_read : ∀ σ H Q, TTof K cl (dOr ta tb) σ H Q → tOr (TTof K cl ta) (TTof K cl tb) σ H Q := by
  rintro σ H Q ⟨w, L, sd, W, h⟩
  refine ⟨w, L, sd, W, PostT.bd botT h fun r s1 h H1 st1 W1 => ?_⟩
  cases r with
  | false =>
    refine iteF ⟨w, L, s1, W1, ?_⟩
    match (tb s1 : M (Bool × S)), h with
    | none, h => exact h.elim
    | some (.ex _), h => exact h.elim
    | some (.ok (b, s2)), h => exact fun H2 st2 W2 => h H2 (st1.trans st2) W2
  | true => exact iteT (h H1 st1 W1)
theorem d_and1 (ha : PT X a (TTof K cl ta)) : PW X (.BoolOp .And [a] pos) (TTof K cl ta) := pw_and1 ha
theorem d_or1 (ha : PT X a (TTof K cl ta)) : PW X (.BoolOp .Or [a] pos) (TTof K cl ta) := pw_or1 ha
theorem d_and (ha : PT X a (TTof K cl ta)) (hb : PW X (.BoolOp .And (b :: rest) pos) (TTof K cl tb)) : PW X (.BoolOp .And (a :: b :: rest) pos) (TTof K cl (dAnd ta tb)) := iW (pw_and ha hb) and_read
theorem d_or (ha : PT X a (TTof K cl ta)) (hb : PW X (.BoolOp .Or (b :: rest) pos) (TTof K cl tb)) : PW X (.BoolOp .Or (a :: b :: rest) pos) (TTof K cl (dOr ta tb)) := iW (pw_or ha hb) or_read
theorem d_not (ha : PT X a (TTof K cl ta)) : PT X (.UnaryOp .Not a pos) (TTof K cl (dNot ta)) := by
  refine iT (pt_not ha) ?_
  rintro σ H Q ⟨w, L, sd, W, h⟩
  exact ⟨w, L, sd, W, PostT.bd botT h fun r s1 h H1 st1 W1 => h H1 st1 W1⟩
theorem PostE.on {w : Wf} {L : List Addr} {σ : L2.St} {H H1 : Hp} {Q : VK} {m : M (D × S)} (h : PostE K cl w L σ H Q m) (st1 : Step w L H L H1) : PostE K cl w L σ H1 Q m := by
  match m, h with
  | none, h => exact h.elim
  | some (.ex _), h => exact h.elim
  | some (.ok (b, s2)), h => exact fun v H2 st2 W2 r => h v H2 (st1.trans st2) W2 r
theorem d_vone {op : BoolOp} (ha : PE X a (TEof K cl fa)) : PE X (.BoolOp op [a] pos) (TEof K cl fa) := pe_one ha
theorem d_vand (ha : PE X a (TEof K cl fa)) (hb : PE X (.BoolOp .And (b :: rest) pos) (TEof K cl fb)) : PE X (.BoolOp .And (a :: b :: rest) pos) (TEof K cl (vAnd fa fb)) := by
  refine iE (pe_and ha hb) ?_
  rintro σ H Q ⟨w, L, sd, W, h⟩
  refine ⟨w, L, sd, W, PostE.bd botE h fun r s1 h v H1 st1 W1 rr => ?_⟩
  cases r with
  | bl b =>
    cases rr
    refine ⟨b, rfl, ?_⟩
    cases b with
    | true => exact iteT ⟨w, L, s1, W1, PostE.on h st1⟩
    | false => exact iteF (h _ H1 st1 W1 (.bl _))
  | _ => exact h.elim
theorem d_vor (ha : PE X a (TEof K cl fa)) (hb : PE X (.BoolOp .Or (b :: rest) pos) (TEof K cl fb)) : PE X (.BoolOp .Or (a :: b :: rest) pos) (TEof K cl (vOr fa fb)) := by
  refine iE (pe_or ha hb) ?_
  rintro σ H Q ⟨w, L, sd, W, h⟩
  refine ⟨w, L, sd, W, PostE.bd botE h fun r s1 h v H1 st1 W1 rr => ?_⟩
  cases r with
  | bl b =>
    cases rr
    refine ⟨b, rfl, ?_⟩
    cases b with
    | false => exact iteF ⟨w, L, s1, W1, PostE.on h st1⟩
    | true => exact iteT (h _ H1 st1 W1 (.bl _))
  | _ => exact h.elim
theorem d_vnot (ha : PE X a (TEof K cl fa)) : PE X (.UnaryOp .Not a pos) (TEof K cl (vNot fa)) := by
  refine iE (pe_not ha) ?_
  rintro σ H Q ⟨w, L, sd, W, h⟩
  refine ⟨w, L, sd, W, PostE.bd botE h fun r s1 h v H1 st1 W1 rr => ?_⟩
  cases r with
  | bl b =>
    cases rr
    exact ⟨b, rfl, h _ H1 st1 W1 (.bl _)⟩
  | _ => exact h.elim
theorem d_ifx (hc : PT X c (TTof K cl tc)) (ha : PE X a (TEof K cl fa)) (hb : PE X b (TEof K cl fb)) : PE X (.IfExp c a b pos) (TEof K cl (dIf tc fa fb)) := by
  refine iE (pe_ifExp hc ha hb) ?_
  rintro σ H Q ⟨w, L, sd, W, h⟩
  refine ⟨w, L, sd, W, PostT.bd botE h fun r s1 h H1 st1 W1 => ?_⟩
  cases r with
  | true => exact iteT ⟨w, L, s1, W1, PostE.on h st1⟩
  | false => exact iteF ⟨w, L, s1, W1, PostE.on h st1⟩
end
/-! ### arguments, displays -/
def aNil : S → M (List D × S) := fun s => ok ([], s)
def aCons (fa : S → M (D × S)) (fr : S → M (List D × S)) : S → M (List D × S) := fun s => bd (fa s) fun p => bd (fr p.2) fun q => ok (p.1 :: q.1, q.2)
def dTup (fr : S → M (List D × S)) : S → M (D × S) := fun s => bd (fr s) fun p => if p.1.length ≤ sizeLine then ok (.tup p.1, p.2) else none
def dLst (fr : S → M (List D × S)) : S → M (D × S) := fun s => bd (fr s) fun p => if p.1.length ≤ sizeLine then ok (.lst p.1, p.2) else none
section
variable {X : Cx} {K : PySem.W.Frag} {cl : Cl} {pos : Pos} {e : Expr} {es : List Expr} {fa : S → M (D × S)} {fr : S → M (List D × S)}
theorem nil_read : ∀ σ H Q, TAof K cl aNil σ H Q → tNil σ H Q := by
  rintro σ H Q ⟨w, L, sd, W, h⟩
  exact h [] H .refl W .nil
theorem cons_read : ∀ σ H Q, TAof K cl (aCons fa fr) σ H Q → tCons (TEof K cl fa) (TAof K cl fr) σ H Q := by
  rintro σ H Q ⟨w, L, sd, W, h⟩
  refine ⟨w, L, sd, W, PostE.bd botA h fun r s1 h v H1 st1 W1 rr => ?_⟩
  refine ⟨w, L, s1, W1, PostA.bd botA h fun rs s2 h vs H2 st2 W2 rrs => ?_⟩
  exact h (v :: vs) H2 (st1.trans st2) W2 (.cons (rr.mono (st2.sn W2)) rrs)
theorem d_nil : PA X [] (TAof K cl aNil) := iA pa_nil nil_read
theorem d_cons (ha : PE X e (TEof K cl fa)) (hr : PA X es (TAof K cl fr)) (hs : starEach (e :: es) X.env = (false, eval e X.env) :: starEach es X.env := by rfl) : PA X (e :: es) (TAof K cl (aCons fa fr)) := iA (pa_cons ha hr hs) cons_read
theorem d_tup {k : Nat} (ha : PA X es (TAof K cl fr)) : PE X (.Tuple es k pos) (TEof K cl (dTup fr)) := by
  refine iE (pe_tup ha) ?_
  rintro σ H Q ⟨w, L, sd, W, h⟩
  refine ⟨w, L, sd, W, PostA.bd botE h fun rs s1 h vs H1 st1 W1 rrs => ?_⟩
  split at h
  · next c =>
    refine ⟨by rw [rrs.len]; exact c, fun p np => ?_⟩
    have sm := same_upd (o := .tup vs) np
    exact h (.ref p) _ (st1.trans (.of_same sm)) (W1.ext sm) (.tup (.inl (.inl (hide_some.mpr ⟨W1.new_ne np, upd_same⟩))) (rrs.mono ((Step.of_same sm).sn W1)))
  · exact h.elim
/-- a new list as one's own -/
theorem f_lst (ha : PA X es (TAof K cl fr)) : PE X (.List es pos) (TFof K cl (dLst fr)) := by
  refine iE (pe_lst ha) ?_
  rintro σ H Q ⟨w, L, sd, W, h⟩
  refine ⟨w, L, sd, W, PostA.bd botF h fun rs s1 h vs H1 st1 W1 rrs => ?_⟩
  split at h
  · next c =>
    refine ⟨by rw [rrs.len]; exact c, fun p np => ?_⟩
    have sm := same_upd (o := .lst vs) np
    have st2 : Step w L H1 (p :: L) (upd H1 p (.lst vs)) := ⟨(Step.of_same (w := w) (L := L) sm).keep, (Step.of_same (w := w) (L := L) sm).alv, fun a ha => by
      (rcases List.mem_cons.mp ha with rfl | ha)
      · exact .inr np
      · exact .inl ha⟩
    have W2 := W1.made sm np (by rw [upd_same]; simp)
    exact h p _ (st1.trans st2) (W1.new_ne np) (W1.ext sm) W2 ⟨vs, upd_same, rrs.mono (st2.seen W1.sub)⟩
  · exact h.elim
/-- a new list as a value -/
theorem d_of (h : PE X e (TFof K cl fa)) : PE X e (TEof K cl fa) := by
  refine iE h ?_
  rintro σ H Q ⟨w, L, sd, W, h⟩
  refine ⟨w, L, sd, W, ?_⟩
  match (fa sd : M (D × S)), h with
  | none, h => exact h.elim
  | some (.ex _), h => exact h.elim
  | some (.ok (r, s1)), h =>
    intro p H1 st np W1 W2 ho
    refine h (.ref p) H1 ⟨st.keep, st.alv, fun _ z => .inl z⟩ W1 (ho.rp np ?_)
    exact hide_sub fun _ z => List.mem_cons_of_mem _ z
theorem d_lst (ha : PA X es (TAof K cl fr)) : PE X (.List es pos) (TEof K cl (dLst fr)) := d_of (f_lst ha)
end
end Dt
namespace Dt
open L2 PySem PySem.Spec PyProof.Rows
/-! ### calls of what is built in -/
abbrev OpN := List D → M D
def dCall (g : OpN) (fr : S → M (List D × S)) : S → M (D × S) := fun s => bd (fr s) fun p => bd (g p.1) fun r => ok (r, p.2)
def CallD (K : PySem.W.Frag) (cl : Cl) (r : List V → Hp → VK → Prop) (g : OpN) : Prop := ∀ (O : List Addr) (H : Hp) (xs : List V) (ds : List D) (Q : VK), (∀ a ∈ O, H a ≠ none) → RpA K cl (hide O H) xs ds → Fin1 K cl O H Q (g ds) → r xs H Q
structure CallK (X : Cx) (K : PySem.W.Frag) (cl : Cl) (f : Value) (g : OpN) : Prop where
  it : ∃ r, CallR X f r ∧ CallD K cl r g
section
variable {X : Cx} {K : PySem.W.Frag} {cl : Cl} {pos p : Pos} {e : Expr} {es : List Expr} {fr : S → M (List D × S)} {g : OpN} {x : Str} {id T : String}
theorem call_read {r : List V → Hp → VK → Prop} (hd : CallD K cl r g) : ∀ σ H Q, TEof K cl (dCall g fr) σ H Q → tCB r (TAof K cl fr) σ H Q := by
  rintro σ H Q ⟨w, L, sd, W, h⟩
  refine ⟨w, L, sd, W, PostA.bd botE h fun rs s1 h vs H1 st1 W1 rrs => ?_⟩
  exact hd (L ++ w.O0) H1 vs rs Q W1.alive rrs (h.fin st1 W1)
theorem d_callB (hc : CallK X K cl (.builtin id) g) (hm : X.mg x = none) (hv : bootBuiltins x = some (.builtin id)) (ha : PA X (e :: es) (TAof K cl fr)) (hg : Gl X x := by rfl) (hn : x ≠ "__name__" := by decide) (hdb : (x == ("__debug__" : Str)) = false := by decide)
    (he : starEach (e :: es) X.env = (false, eval e X.env) :: starEach es X.env := by rfl) (hpl : (backTo pos (starEach es X.env)).any (·.1) = false := by rfl) : PE X (.Call (.Name x p) (e :: es) [] pos) (TEof K cl (dCall g fr)) := by
  obtain ⟨r, h1, h2⟩ := hc.it
  exact iE (pe_callB h1 hg hm hv ha hn hdb he hpl) (call_read h2)
theorem d_callT (hc : CallK X K cl (.type T) g) (hm : X.mg x = none) (hv : bootBuiltins x = some (.type T)) (ha : PA X (e :: es) (TAof K cl fr)) (hg : Gl X x := by rfl) (hn : x ≠ "__name__" := by decide) (hdb : (x == ("__debug__" : Str)) = false := by decide)
    (he : starEach (e :: es) X.env = (false, eval e X.env) :: starEach es X.env := by rfl) (hpl : (backTo pos (starEach es X.env)).any (·.1) = false := by rfl) : PE X (.Call (.Name x p) (e :: es) [] pos) (TEof K cl (dCall g fr)) := by
  obtain ⟨r, h1, h2⟩ := hc.it
  exact iE (pe_callTy h1 hg hm hv ha hn hdb he hpl) (call_read h2)
end
def absN : OpN := fun ds => match ds with
  | [.int i] => ok (.int (if i < 0 then -i else i))
  | _ => none
def max2N : OpN := fun ds => match ds with
  | [.int i, .int j] => ok (.int (if j > i then j else i))
  | _ => none
def min2N : OpN := fun ds => match ds with
  | [.int i, .int j] => ok (.int (if j < i then j else i))
  | _ => none
def intN : OpN := fun ds => match ds with
  | [.int i] => ok (.int i)
  | [.bl b] => ok (.int (if b then 1 else 0))
  | _ => none
def strN : OpN := fun ds => match ds with
  | [.int i] => if i.natAbs.log2 < 1920 then ok (.str (toString i)) else none
  | _ => none
def lenN : OpN := fun ds => match ds with
  | [.lst xs] => ok (.int xs.length)
  | [.tup xs] => ok (.int xs.length)
  | [.str x] => if x.length ≤ sizeLine then ok (.int x.length) else none
  | _ => none
def divmodN : OpN := fun ds => match ds with
  | [.int i, .int j] => if divOk j then ok (.tup [.int (i / j), .int (i % j)]) else none
  | _ => none
/-- a list of ints -/
def ints? : List D → Option (List Int)
  | [] => some []
  | .int i :: r => (ints? r).map (i :: ·)
  | _ => none
theorem ints?_map : ∀ ns : List Int, ints? (ns.map D.int) = some ns
  | [] => rfl
  | n :: ns => by rw [List.map_cons, ints?, ints?_map ns]; rfl
theorem of_ints? : ∀ {ds : List D} {ns : List Int}, ints? ds = some ns → ds = ns.map D.int
  | [], _, h => by cases h; rfl
  | d :: ds, ns, h => by
    cases d with
    | int i =>
      rw [ints?] at h
      cases e : ints? ds with
      | none => (rw [e] at h; cases h)
      | some ms =>
        rw [e] at h
        cases h
        rw [of_ints? e]
        rfl
    | _ => cases h
def sumN : OpN := fun ds => match ds with
  | [.lst xs] => match ints? xs with
    | some ns => ok (.int ns.sum)
    | none => none
  | _ => none
/-- greatest, least of a list that is not empty -/
def maxL : List Int → Int
  | [] => 0
  | [x] => x
  | x :: r => max x (maxL r)
def minL : List Int → Int
  | [] => 0
  | [x] => x
  | x :: r => min x (minL r)
theorem maxL_spec : ∀ (ns : List Int), ns ≠ [] → maxL ns ∈ ns ∧ ∀ y ∈ ns, y ≤ maxL ns
  | [], h => absurd rfl h
  | [x], _ => by simp [maxL]
  | x :: y :: r, _ => by
    obtain ⟨h1, h2⟩ := maxL_spec (y :: r) (by simp)
    rw [maxL]
    · constructor
      · by_cases c : x ≤ maxL (y :: r)
        · rw [Int.max_eq_right c]; exact List.mem_cons_of_mem _ h1
        · rw [Int.max_eq_left (by omega)]; exact List.mem_cons_self
      · intro z hz
        (rcases List.mem_cons.mp hz with rfl | hz)
        · exact Int.le_max_left _ _
        · exact Int.le_trans (h2 z hz) (Int.le_max_right _ _)
    · simp
theorem minL_spec : ∀ (ns : List Int), ns ≠ [] → minL ns ∈ ns ∧ ∀ y ∈ ns, minL ns ≤ y
  | [], h => absurd rfl h
  | [x], _ => by simp [minL]
  | x :: y :: r, _ => by
    obtain ⟨h1, h2⟩ := minL_spec (y :: r) (by simp)
    rw [minL]
    · constructor
      · by_cases c : x ≤ minL (y :: r)
        · rw [Int.min_eq_left c]; exact List.mem_cons_self
        · rw [Int.min_eq_right (by omega)]; exact List.mem_cons_of_mem _ h1
      · intro z hz
        (rcases List.mem_cons.mp hz with rfl | hz)
        · exact Int.min_le_left _ _
        · exact Int.le_trans (Int.min_le_right _ _) (h2 z hz)
    · simp
def maxN : OpN := fun ds => match ds with
  | [.lst xs] => match ints? xs with
    | some (n :: ns) => ok (.int (maxL (n :: ns)))
    | _ => none
  | _ => none
def minN : OpN := fun ds => match ds with
  | [.lst xs] => match ints? xs with
    | some (n :: ns) => ok (.int (minL (n :: ns)))
    | _ => none
  | _ => none
/-- list(xs), tuple(xs) of a list or a tuple -/
def listN : OpN := fun ds => match ds with
  | [.lst xs] => ok (.lst xs)
  | [.tup xs] => ok (.lst xs)
  | _ => none
def tupleN : OpN := fun ds => match ds with
  | [.lst xs] => ok (.tup xs)
  | [.tup xs] => ok (.tup xs)
  | _ => none
section
variable {X : Cx} {K : PySem.W.Frag} {cl : Cl}
theorem Fin1.new {O : List Addr} {H : Hp} {Q : VK} {d : D} {p : Addr} {u : HO} (h : Fin1 K cl O H Q (ok d)) (np : H p = none) (r : Rp K cl (hide O (upd H p u)) (.ref p) d) : Q (.ref p) (upd H p u) := h _ _ (same_upd np) r
theorem hide_new {O : List Addr} {H : Hp} {p : Addr} {u : HO} (al : ∀ a ∈ O, H a ≠ none) (np : H p = none) : hide O (upd H p u) p = some u := hide_some.mpr ⟨fun z => al p z np, upd_same⟩
theorem hide_upd {O : List Addr} {H : Hp} {p : Addr} {u : HO} (np : H p = none) : Same (hide O H) (hide O (upd H p u)) := fun b o e =>
  let ⟨n, e⟩ := hide_some.mp e
  hide_some.mpr ⟨n, same_upd np b o e⟩
theorem c_abs : CallK X K cl (.builtin "abs") absN := by
  refine ⟨_, call_abs, fun O H xs ds Q al r h => ?_⟩
  unfold absN at h
  split at h
  · obtain ⟨v, rfl, rv⟩ := r.one
    cases rv
    exact ⟨_, rfl, h.now (.int _)⟩
  · exact h.elim
theorem c_max2 (hc : X.calm = true := by rfl) : CallK X K cl (.builtin "max") max2N := by
  refine ⟨_, call_max2 hc, fun O H xs ds Q al r h => ?_⟩
  unfold max2N at h
  split at h
  · obtain ⟨v, u, rfl, rv, ru⟩ := r.two
    cases rv
    cases ru
    exact ⟨_, _, rfl, h.now (.int _)⟩
  · exact h.elim
theorem c_min2 (hc : X.calm = true := by rfl) : CallK X K cl (.builtin "min") min2N := by
  refine ⟨_, call_min2 hc, fun O H xs ds Q al r h => ?_⟩
  unfold min2N at h
  split at h
  · obtain ⟨v, u, rfl, rv, ru⟩ := r.two
    cases rv
    cases ru
    exact ⟨_, _, rfl, h.now (.int _)⟩
  · exact h.elim
theorem c_int : CallK X K cl (.type "int") intN := by
  refine ⟨_, call_int1, fun O H xs ds Q al r h => ?_⟩
  unfold intN at h
  split at h
  · obtain ⟨v, rfl, rv⟩ := r.one
    cases rv
    exact .inl ⟨_, rfl, h.now (.int _)⟩
  · obtain ⟨v, rfl, rv⟩ := r.one
    cases rv
    exact .inr ⟨_, rfl, h.now (.int _)⟩
  · exact h.elim
theorem c_str : CallK X K cl (.type "str") strN := by
  refine ⟨_, call_str_int, fun O H xs ds Q al r h => ?_⟩
  unfold strN at h
  split at h
  · obtain ⟨v, rfl, rv⟩ := r.one
    cases rv
    split at h
    · next c => exact ⟨_, rfl, c, h.now (.str _)⟩
    · exact h.elim
  · exact h.elim
theorem c_len : CallK X X.K cl (.builtin "len") lenN := by
  refine ⟨_, call_len, fun O H xs ds Q al r h => ?_⟩
  unfold lenN at h
  split at h
  · obtain ⟨v, rfl, rv⟩ := r.one
    cases rv with
    | lst s r =>
      refine ⟨_, _, rfl, .inl ⟨_, hide_le.seq s, rfl⟩, ?_⟩
      rw [r.len]
      exact h.now (.int _)
  · obtain ⟨v, rfl, rv⟩ := r.one
    cases rv with
    | tup s r =>
      refine ⟨_, _, rfl, .inr ⟨_, same_sqT hide_le s, rfl⟩, ?_⟩
      rw [r.len]
      exact h.now (.int _)
  · obtain ⟨v, rfl, rv⟩ := r.one
    cases rv
    split at h
    · next c => exact ⟨_, _, rfl, ⟨c, rfl⟩, h.now (.int _)⟩
    · exact h.elim
  · exact h.elim
/-- divmod by a positive divisor below 2 ^ 9000 -/
theorem call_dm : CallR X (.builtin "divmod") (fun xs H Q => ∃ i j, xs = [.int i, .int j] ∧ divOk j ∧ ∀ p, H p = none → Q (.ref p) (upd H p (.tup [.int (i / j), .int (i % j)]))) := by
  (intro pins s σ H xs us Q I r h)
  obtain ⟨i, j, rfl, ⟨pos, few⟩, q⟩ := h
  obtain ⟨u1, u2, rfl, ⟨t1, rfl⟩, ⟨t2, rfl⟩⟩ := vals2 r
  refine divmod_int (by omega) ?_ (.inl (PyProof.noPylong_of_log2 few))
  (rw [Int.fdiv_eq_ediv_of_nonneg i (by omega), Int.fmod_eq_emod_of_nonneg i (by omega)])
  refine ⟨.ref s.heap.objs.size, _, ?_, rfl, q _ (I.hok.fresh (Nat.le_refl _))⟩
  have two : ([.int (i / j), .int (i % j)] : List V).length ≤ sizeLine := by
    show 2 ≤ 2 ^ 24
    decide
  exact I.laid (fun b o e => Heap.get?_push_of_some _ e) (Nat.le_refl _) ⟨two, [.int (i / j) s.toks, .int (i % j) (s.toks + 1)], .cons ⟨_, rfl⟩ (.cons ⟨_, rfl⟩ .nil), _, Heap.get?_push_size s.heap rfl, rfl, 0, rfl⟩
theorem c_divmod : CallK X K cl (.builtin "divmod") divmodN := by
  refine ⟨_, call_dm, fun O H xs ds Q al r h => ?_⟩
  unfold divmodN at h
  split at h
  · obtain ⟨v, u, rfl, rv, ru⟩ := r.two
    cases rv
    cases ru
    split at h
    · next c =>
      refine ⟨_, _, rfl, c, fun p np => h.new np (.tup (.inl (.inl (hide_new al np))) (.cons (.int _) (.cons (.int _) .nil)))⟩
    · exact h.elim
  · exact h.elim
theorem c_sum (hc : X.calm = true := by rfl) : CallK X X.K cl (.builtin "sum") sumN := by
  refine ⟨_, cr_sum hc, fun O H xs ds Q al r h => ?_⟩
  unfold sumN at h
  split at h
  · obtain ⟨v, rfl, rv⟩ := r.one
    split at h
    · next ns e =>
      rw [of_ints? e] at rv
      cases rv with
      | lst s r =>
        rw [r.ints] at s
        exact ⟨_, ns, rfl, hide_le.seq s, h.now (.int _)⟩
    · exact h.elim
  · exact h.elim
theorem c_max (hc : X.calm = true := by rfl) : CallK X X.K cl (.builtin "max") maxN := by
  refine ⟨_, cr_max hc, fun O H xs ds Q al r h => ?_⟩
  unfold maxN at h
  split at h
  · obtain ⟨v, rfl, rv⟩ := r.one
    split at h
    · next n ns e =>
      rw [of_ints? e] at rv
      cases rv with
      | lst s r =>
        rw [r.ints] at s
        refine ⟨_, n :: ns, rfl, hide_le.seq s, by simp, fun m hm hy => ?_⟩
        obtain ⟨h1, h2⟩ := maxL_spec (n :: ns) (by simp)
        have e2 : m = maxL (n :: ns) := Int.le_antisymm (h2 m hm) (hy _ h1)
        rw [e2]
        exact h.now (.int _)
    · exact h.elim
  · exact h.elim
theorem c_min (hc : X.calm = true := by rfl) : CallK X X.K cl (.builtin "min") minN := by
  refine ⟨_, cr_min hc, fun O H xs ds Q al r h => ?_⟩
  unfold minN at h
  split at h
  · obtain ⟨v, rfl, rv⟩ := r.one
    split at h
    · next n ns e =>
      rw [of_ints? e] at rv
      cases rv with
      | lst s r =>
        rw [r.ints] at s
        refine ⟨_, n :: ns, rfl, hide_le.seq s, by simp, fun m hm hy => ?_⟩
        obtain ⟨h1, h2⟩ := minL_spec (n :: ns) (by simp)
        have e2 : m = minL (n :: ns) := Int.le_antisymm (hy _ h1) (h2 m hm)
        rw [e2]
        exact h.now (.int _)
    · exact h.elim
  · exact h.elim
theorem c_list : CallK X X.K cl (.type "list") listN := by
  refine ⟨_, call_list_of, fun O H xs ds Q al r h => ?_⟩
  unfold listN at h
  split at h
  · obtain ⟨v, rfl, rv⟩ := r.one
    cases rv with
    | lst s r => exact ⟨_, _, rfl, .inl (hide_le.seq s), fun p np => h.new np (.lst (.inl (.inl (hide_new al np))) (r.mono (hide_upd np)))⟩
  · obtain ⟨v, rfl, rv⟩ := r.one
    cases rv with
    | tup s r => exact ⟨_, _, rfl, .inr (same_sqT hide_le s), fun p np => h.new np (.lst (.inl (.inl (hide_new al np))) (r.mono (hide_upd np)))⟩
  · exact h.elim
theorem c_tuple : CallK X X.K cl (.type "tuple") tupleN := by
  refine ⟨_, call_tuple_of, fun O H xs ds Q al r h => ?_⟩
  unfold tupleN at h
  split at h
  · obtain ⟨v, rfl, rv⟩ := r.one
    cases rv with
    | lst s r => exact ⟨_, _, rfl, .inl ⟨hide_le.seq s, fun p np => h.new np (.tup (.inl (.inl (hide_new al np))) (r.mono (hide_upd np)))⟩⟩
  · obtain ⟨v, rfl, rv⟩ := r.one
    cases rv with
    | tup s r => exact ⟨_, _, rfl, .inr ⟨same_sqT hide_le s, h.now (.tup s r)⟩⟩
  · exact h.elim
end
/-! ### repr of plain lists and tuples -/
mutual
/-- a bound for the text of plain data -/
def D.bound : D → Nat
  | .non => 4
  | .bl _ => 5
  | .int i => i.natAbs.log2 + 2
  | .str x => 10 * x.length + 2
  | .lst xs => D.bounds xs + 2
  | .tup xs => D.bounds xs + 3
  | .obj _ _ => 0
  | .dic _ _ => 0
def D.bounds : List D → Nat
  | [] => 0
  | x :: xs => D.bound x + 2 + D.bounds xs
end
def reprN : OpN := fun ds => match ds with
  | [.lst xs] => if D.plains xs ∧ (D.py (.lst xs)).showable = true ∧ (D.py (.lst xs)).depth ≤ 60 ∧ (D.py (.lst xs)).shown.length ≤ sizeLine then ok (.str (D.py (.lst xs)).shown) else none
  | [.tup xs] => if D.plains xs ∧ (D.py (.tup xs)).showable = true ∧ (D.py (.tup xs)).depth ≤ 60 ∧ (D.py (.tup xs)).shown.length ≤ sizeLine then ok (.str (D.py (.tup xs)).shown) else none
  | _ => none
mutual
theorem nodict_py : ∀ d : D, d.py.hasDict = false
  | .non => by rw [D.py, PyData.hasDict]
  | .bl _ => by rw [D.py, PyData.hasDict]
  | .int _ => by rw [D.py, PyData.hasDict]
  | .str _ => by rw [D.py, PyData.hasDict]
  | .lst xs => by rw [D.py, PyData.hasDict]; exact nodict_pys xs
  | .tup xs => by rw [D.py, PyData.hasDict]; exact nodict_pys xs
  | .obj _ _ => by rw [D.py, PyData.hasDict]
  | .dic _ _ => by rw [D.py, PyData.hasDict]
theorem nodict_pys : ∀ ds : List D, PyData.hasDictAll (D.pys ds) = false
  | [] => by rw [D.pys, PyData.hasDictAll]
  | d :: ds => by rw [D.pys, PyData.hasDictAll, nodict_py d, nodict_pys ds]; rfl
end
/-- repr of what reads as d -/
def rRepr (K : PySem.W.Frag) : List V → Hp → VK → Prop := fun xs H Q => ∃ (a : Addr) (d : PyData), xs = [.ref a] ∧ Dp K H (.ref a) d ∧ d.showable = true ∧ d.hasDict = false ∧ d.depth ≤ 60 ∧ d.shown.length ≤ sizeLine ∧ Q (.str d.shown) H
section
variable {X : Cx} {cl : Cl}
theorem call_repr (hg : X.A.guards = some []) (hu : X.A.units + 64 < cLine) : CallR X (.builtin "repr") (rRepr X.K) := by
  (intro pins s σ H xs us Q I r h)
  obtain ⟨a, d, rfl, hd, h1, h2, h3, h4, q⟩ := h
  (obtain ⟨u, rfl, ru⟩ := vals1 r)
  cases ru
  obtain ⟨as, rd⟩ := Dp.reads I d _ _ hd rfl
  refine repr_of_reads' rd h1 (PyData.noDict_hsm h2) hg (by omega) (fun _ _ e => e) (fun h' u tk hk => ?_) h4
  exact ⟨.str d.shown, H, I.kept hk, ⟨_, rfl⟩, q⟩
theorem c_repr (hg : X.A.guards = some []) (hu : X.A.units + 64 < cLine) : CallK X X.K cl (.builtin "repr") reprN := by
  refine ⟨_, call_repr hg hu, fun O H xs ds Q al r h => ?_⟩
  unfold reprN at h
  split at h
  · next ys =>
    obtain ⟨v, rfl, rv⟩ := r.one
    split at h
    · next c =>
      obtain ⟨c1, c2, c3, c4⟩ := c
      have hd : Dp X.K H v (D.py (.lst ys)) := rv.dp (by rw [D.plain]; exact c1)
      cases rv with
      | lst s r => exact ⟨_, _, rfl, hd, c2, nodict_py _, c3, c4, h.now (.str _)⟩
    · exact h.elim
  · next ys =>
    obtain ⟨v, rfl, rv⟩ := r.one
    split at h
    · next c =>
      obtain ⟨c1, c2, c3, c4⟩ := c
      have hd : Dp X.K H v (D.py (.tup ys)) := rv.dp (by rw [D.plain]; exact c1)
      cases rv with
      | tup s r => exact ⟨_, _, rfl, hd, c2, nodict_py _, c3, c4, h.now (.str _)⟩
    · exact h.elim
  · exact h.elim
end
end Dt
namespace Dt
open L2 PySem PySem.Spec PyProof.Rows
/-! ### what is walked -/
structure ItOK (K : PySem.W.Frag) (cl : Cl) (O : List Addr) (H0 : Hp) (ds : List D) (J : It) : Prop where
  go : ∀ (i : Nat) (O' : List Addr) (H : Hp), Same (hide O H0) (hide O' H) → i < ds.length → J.go i H
  stop : ∀ (i : Nat) (O' : List Addr) (H : Hp), Same (hide O H0) (hide O' H) → ds.length ≤ i → J.stop i H
  yld : ∀ (i : Nat) (O' : List Addr) (H : Hp) (x : V) (H' : Hp), Same (hide O H0) (hide O' H) → (∀ a ∈ O', H a ≠ none) → J.yld i H x H' → Same H H' ∧ ∀ d, ds[i]? = some d → Rp K cl (hide O' H') x d
def PostI (K : PySem.W.Frag) (cl : Cl) (w : Wf) (L : List Addr) (σ : L2.St) (H : Hp) (R : It → Hp → Prop) : M (List D × S) → Prop
  | some (.ok (ds, s')) => ∀ J H', Step w L H L H' → Wl K cl w L s' σ H' → ItOK K cl (L ++ w.O0) H' ds J → R J H'
  | _ => False
def TIof (K : PySem.W.Frag) (cl : Cl) (f : S → M (List D × S)) : TI := fun σ H R => ∃ w L sd, Wl K cl w L sd σ H ∧ PostI K cl w L σ H R (f sd)
def iLst (fa : S → M (D × S)) : S → M (List D × S) := fun s => bd (fa s) fun p => match p.1 with
  | .lst ds => ok (ds, p.2)
  | _ => none
def iTp (fa : S → M (D × S)) : S → M (List D × S) := fun s => bd (fa s) fun p => match p.1 with
  | .tup ds => ok (ds, p.2)
  | _ => none
def rangeD (i : Int) (n : Nat) : List D := (List.range n).map fun (k : Nat) => D.int (i + (k : Int))
def rngOk (i : Int) : Prop := -(2 ^ 62) ≤ i ∧ i < 2 ^ 62
instance (i : Int) : Decidable (rngOk i) := by unfold rngOk; infer_instance
def iR1 (fr : S → M (List D × S)) : S → M (List D × S) := fun s => bd (fr s) fun p => match p.1 with
  | [.int j] => if rngOk j then ok (rangeD 0 j.toNat, p.2) else none
  | _ => none
def iR2 (fr : S → M (List D × S)) : S → M (List D × S) := fun s => bd (fr s) fun p => match p.1 with
  | [.int i, .int j] => if rngOk i ∧ rngOk j then ok (rangeD i (j - i).toNat, p.2) else none
  | _ => none
def enumD : Nat → List D → List D
  | _, [] => []
  | i, d :: ds => .tup [.int i, d] :: enumD (i + 1) ds
def iEn (fr : S → M (List D × S)) : S → M (List D × S) := fun s => bd (fr s) fun p => match p.1 with
  | [.lst ds] => ok (enumD 0 ds, p.2)
  | _ => none
def zipD : List D → List D → List D
  | d :: ds, e :: es => .tup [d, e] :: zipD ds es
  | _, _ => []
def iZp (fr : S → M (List D × S)) : S → M (List D × S) := fun s => bd (fr s) fun p => match p.1 with
  | [.lst ds, .lst es] => ok (zipD ds es, p.2)
  | _ => none
theorem rangeD_len (i : Int) (n : Nat) : (rangeD i n).length = n := by simp [rangeD]
theorem rangeD_get (i : Int) (n k : Nat) (h : k < n) : (rangeD i n)[k]? = some (.int (i + (k : Int))) := by
  unfold rangeD
  rw [List.getElem?_map, List.getElem?_range h]
  rfl
theorem enumD_len : ∀ (i : Nat) (ds : List D), (enumD i ds).length = ds.length
  | _, [] => rfl
  | i, d :: ds => by rw [enumD, List.length_cons, List.length_cons, enumD_len]
theorem enumD_get : ∀ (i : Nat) (ds : List D) (k : Nat), (enumD i ds)[k]? = (ds[k]?).map fun d => .tup [.int ((i + k : Nat) : Int), d]
  | _, [], k => by simp [enumD]
  | i, d :: ds, 0 => by simp [enumD]
  | i, d :: ds, k + 1 => by
    rw [enumD, List.getElem?_cons_succ, enumD_get (i + 1) ds k, List.getElem?_cons_succ]
    have e : i + 1 + k = i + (k + 1) := by omega
    rw [e]
theorem zipD_get : ∀ (ds es : List D) (k : Nat) (d e : D), ds[k]? = some d → es[k]? = some e → (zipD ds es)[k]? = some (.tup [d, e])
  | [], _, k, _, _, h, _ => by simp at h
  | _ :: _, [], k, _, _, _, h => by simp at h
  | d :: ds, e :: es, 0, _, _, h, h' => by simp at h h'; subst h; subst h'; rfl
  | d :: ds, e :: es, k + 1, x, y, h, h' => by
    rw [zipD, List.getElem?_cons_succ]
    exact zipD_get ds es k x y (by simpa using h) (by simpa using h')
theorem zipD_len : ∀ (ds es : List D), (zipD ds es).length = min ds.length es.length
  | [], _ => by simp [zipD]
  | _ :: _, [] => by simp [zipD]
  | d :: ds, e :: es => by rw [zipD, List.length_cons, zipD_len, List.length_cons, List.length_cons]; omega
section
variable {X : Cx} {K : PySem.W.Frag} {cl : Cl} {pos p : Pos} {tg l a b e : Expr} {fa : S → M (D × S)} {fr : S → M (List D × S)}
theorem iP {X : Cx} {tg e : Expr} {t t' : TI} (h : PI X tg e t) (k : ∀ σ H Q, t' σ H Q → t σ H Q) : PI X tg e t' := ⟨fun pins s σ H Q I q => h.run pins s σ H Q I (k σ H Q q)⟩
theorem botI {w : Wf} {L : List Addr} {σ : L2.St} {H : Hp} {R : It → Hp → Prop} : Bot (PostI K cl w L σ H R) := ⟨fun h => h, fun _ h => h⟩
theorem itok_list {O : List Addr} {H0 : Hp} {a : Addr} {xs : List V} {ds : List D} (s : SqL K (hide O H0) a xs) (r : RpA K cl (hide O H0) xs ds) : ItOK K cl O H0 ds (Itl K a) where
  go := fun i O' H sm hi => by
    have e := r.len
    exact ⟨xs, xs[i], hide_le.seq (sm.seq s), List.getElem?_eq_getElem (by omega)⟩
  stop := fun i O' H sm hi => ⟨xs, hide_le.seq (sm.seq s), by rw [r.len]; exact hi⟩
  yld := fun i O' H x H' sm al y => by
    obtain ⟨rfl, y⟩ := y
    refine ⟨Same.refl _, fun d hd => ?_⟩
    obtain ⟨v, h1, h2⟩ := r.get i hd
    have h3 := y xs (hide_le.seq (sm.seq s))
    rw [h1] at h3
    cases h3
    exact h2.mono sm
theorem itok_tup {O : List Addr} {H0 : Hp} {a : Addr} {xs : List V} {ds : List D} (s : SqT K (hide O H0) a xs) (r : RpA K cl (hide O H0) xs ds) : ItOK K cl O H0 ds (Itt K a) where
  go := fun i O' H sm hi => by
    have e := r.len
    exact ⟨xs, xs[i], same_sqT hide_le (same_sqT sm s), List.getElem?_eq_getElem (by omega)⟩
  stop := fun i O' H sm hi => ⟨xs, same_sqT hide_le (same_sqT sm s), by rw [r.len]; exact hi⟩
  yld := fun i O' H x H' sm al y => by
    obtain ⟨rfl, y⟩ := y
    refine ⟨Same.refl _, fun d hd => ?_⟩
    obtain ⟨v, h1, h2⟩ := r.get i hd
    have h3 := y xs (same_sqT hide_le (same_sqT sm s))
    rw [h1] at h3
    cases h3
    exact h2.mono sm
theorem itok_rng {O : List Addr} {H0 : Hp} {i : Int} {n : Nat} : ItOK K cl O H0 (rangeD i n) (Itr i n) where
  go := fun k O' H sm hk => by rw [rangeD_len] at hk; exact hk
  stop := fun k O' H sm hk => by rw [rangeD_len] at hk; exact hk
  yld := fun k O' H x H' sm al y => by
    obtain ⟨rfl, rfl⟩ := y
    refine ⟨Same.refl _, fun d hd => ?_⟩
    have hk : k < n := by
      have := (List.getElem?_eq_some_iff.mp hd).1
      rwa [rangeD_len] at this
    rw [rangeD_get i n k hk] at hd
    cases hd
    exact .int _
theorem itok_en {O : List Addr} {H0 : Hp} {a : Addr} {xs : List V} {ds : List D} (s : SqL K (hide O H0) a xs) (r : RpA K cl (hide O H0) xs ds) : ItOK K cl O H0 (enumD 0 ds) (Ite K a) where
  go := fun i O' H sm hi => by
    have e := r.len
    rw [enumD_len] at hi
    exact ⟨xs, xs[i], hide_le.seq (sm.seq s), List.getElem?_eq_getElem (by omega)⟩
  stop := fun i O' H sm hi => ⟨xs, hide_le.seq (sm.seq s), by rw [r.len]; rw [enumD_len] at hi; exact hi⟩
  yld := fun i O' H x H' sm al y => by
    obtain ⟨T, x1, rfl, nT, rfl, y⟩ := y
    refine ⟨same_upd nT, fun d hd => ?_⟩
    rw [enumD_get] at hd
    cases q : ds[i]? with
    | none => rw [q] at hd; cases hd
    | some d1 =>
      rw [q] at hd
      cases hd
      obtain ⟨v, h1, h2⟩ := r.get i q
      have h3 := y xs (hide_le.seq (sm.seq s))
      rw [h1] at h3
      cases h3
      refine .tup (.inl (.inl (hide_new al nT))) (.cons ?_ (.cons ((h2.mono sm).mono (hide_upd nT)) .nil))
      have e : (0 + i : Nat) = i := by omega
      rw [e]
      exact .int _
theorem itok_zp {O : List Addr} {H0 : Hp} {a b : Addr} {xs ys : List V} {ds es : List D} (s : SqL K (hide O H0) a xs) (r : RpA K cl (hide O H0) xs ds) (s2 : SqL K (hide O H0) b ys) (r2 : RpA K cl (hide O H0) ys es) : ItOK K cl O H0 (zipD ds es) (Itz K a b) where
  go := fun i O' H sm hi => by
    have e := r.len
    have e2 := r2.len
    rw [zipD_len] at hi
    exact ⟨xs, ys, xs[i], ys[i], hide_le.seq (sm.seq s), hide_le.seq (sm.seq s2), List.getElem?_eq_getElem (by omega), List.getElem?_eq_getElem (by omega)⟩
  stop := fun i O' H sm hi => by
    have e := r.len
    have e2 := r2.len
    rw [zipD_len] at hi
    exact ⟨xs, ys, hide_le.seq (sm.seq s), hide_le.seq (sm.seq s2), by omega⟩
  yld := fun i O' H x H' sm al y => by
    obtain ⟨T, x1, x2, rfl, nT, rfl, y1, y2⟩ := y
    refine ⟨same_upd nT, fun d hd => ?_⟩
    have hi := (List.getElem?_eq_some_iff.mp hd).1
    rw [zipD_len] at hi
    have q1 : ds[i]? = some ds[i] := List.getElem?_eq_getElem (by omega)
    have q2 : es[i]? = some es[i] := List.getElem?_eq_getElem (by omega)
    rw [zipD_get ds es i _ _ q1 q2] at hd
    cases hd
    obtain ⟨v, h1, h2⟩ := r.get i q1
    obtain ⟨v', h1', h2'⟩ := r2.get i q2
    have h3 := y1 xs (hide_le.seq (sm.seq s))
    have h3' := y2 ys (hide_le.seq (sm.seq s2))
    rw [h1] at h3
    rw [h1'] at h3'
    cases h3
    cases h3'
    exact .tup (.inl (.inl (hide_new al nT))) (.cons ((h2.mono sm).mono (hide_upd nT)) (.cons ((h2'.mono sm).mono (hide_upd nT)) .nil))
theorem w_list (hl : PE X l (TEof X.K cl fa)) : PI X tg l (TIof X.K cl (iLst fa)) := by
  refine iP (pi_list hl) ?_
  rintro σ H Q ⟨w, L, sd, W, h⟩
  refine ⟨w, L, sd, W, PostE.bd botI h fun r s1 h v H1 st1 W1 rr => ?_⟩
  cases rr with
  | lst s r => exact ⟨_, rfl, ⟨_, hide_le.seq s⟩, h _ H1 st1 W1 (itok_list s r)⟩
  | _ => exact h.elim
theorem w_tup (hl : PE X l (TEof X.K cl fa)) : PI X tg l (TIof X.K cl (iTp fa)) := by
  refine iP (pi_tup hl) ?_
  rintro σ H Q ⟨w, L, sd, W, h⟩
  refine ⟨w, L, sd, W, PostE.bd botI h fun r s1 h v H1 st1 W1 rr => ?_⟩
  cases rr with
  | tup s r => exact ⟨_, rfl, ⟨_, same_sqT hide_le s⟩, h _ H1 st1 W1 (itok_tup s r)⟩
  | _ => exact h.elim
theorem w_range1 (hm : X.mg "range" = none) (ha : PA X [a] (TAof K cl fr)) (hg : Gl X "range" := by rfl) (hs : starEach [a] X.env = [(false, eval a X.env)] := by rfl) : PI X tg (.Call (.Name "range" p) [a] [] pos) (TIof K cl (iR1 fr)) := by
  refine iP (pi_range1 hg hm ha hs) ?_
  rintro σ H Q ⟨w, L, sd, W, h⟩
  refine ⟨w, L, sd, W, PostA.bd botI h fun rs s1 h vs H1 st1 W1 rr => ?_⟩
  dsimp only at h
  split at h
  · obtain ⟨v, rfl, rv⟩ := rr.one
    cases rv
    split at h
    · next c => exact ⟨_, rfl, c.1, c.2, h _ H1 st1 W1 itok_rng⟩
    · exact h.elim
  · exact h.elim
theorem w_range2 (hm : X.mg "range" = none) (ha : PA X [a, b] (TAof K cl fr)) (hg : Gl X "range" := by rfl) (hs : starEach [a, b] X.env = [(false, eval a X.env), (false, eval b X.env)] := by rfl) (hs2 : starEach [b] X.env = [(false, eval b X.env)] := by rfl) : PI X tg (.Call (.Name "range" p) [a, b] [] pos) (TIof K cl (iR2 fr)) := by
  refine iP (pi_range2 hg hm ha hs hs2) ?_
  rintro σ H Q ⟨w, L, sd, W, h⟩
  refine ⟨w, L, sd, W, PostA.bd botI h fun rs s1 h vs H1 st1 W1 rr => ?_⟩
  dsimp only at h
  split at h
  · obtain ⟨v, u, rfl, rv, ru⟩ := rr.two
    cases rv
    cases ru
    split at h
    · next c => exact ⟨_, _, rfl, ⟨c.1.1, c.1.2, c.2.1, c.2.2⟩, h _ H1 st1 W1 itok_rng⟩
    · exact h.elim
  · exact h.elim
theorem w_enum {elts : List Expr} {kk : Nat} {tpos : Pos} (hm : X.mg "enumerate" = none) (ha : PA X [e] (TAof X.K cl fr)) (hg : Gl X "enumerate" := by rfl) (hs : starEach [e] X.env = [(false, eval e X.env)] := by rfl) : PI X (.Tuple elts kk tpos) (.Call (.Name "enumerate" p) [e] [] pos) (TIof X.K cl (iEn fr)) := by
  refine iP (pi_enum hg hm ha hs) ?_
  rintro σ H Q ⟨w, L, sd, W, h⟩
  refine ⟨w, L, sd, W, PostA.bd botI h fun rs s1 h vs H1 st1 W1 rr => ?_⟩
  dsimp only at h
  split at h
  · obtain ⟨v, rfl, rv⟩ := rr.one
    cases rv with
    | lst s r => exact ⟨_, _, rfl, hide_le.seq s, h _ H1 st1 W1 (itok_en s r)⟩
  · exact h.elim
theorem w_zip {e2 : Expr} {elts : List Expr} {kk : Nat} {tpos : Pos} (hm : X.mg "zip" = none) (ha : PA X [e, e2] (TAof X.K cl fr)) (hg : Gl X "zip" := by rfl) (hs : starEach [e, e2] X.env = (false, eval e X.env) :: starEach [e2] X.env := by rfl) (hpl : (backTo pos (starEach [e2] X.env)).any (·.1) = false := by rfl) :
    PI X (.Tuple elts kk tpos) (.Call (.Name "zip" p) [e, e2] [] pos) (TIof X.K cl (iZp fr)) := by
  refine iP (pi_zip hg hm ha hs hpl) ?_
  rintro σ H Q ⟨w, L, sd, W, h⟩
  refine ⟨w, L, sd, W, PostA.bd botI h fun rs s1 h vs H1 st1 W1 rr => ?_⟩
  dsimp only at h
  split at h
  · obtain ⟨v, u, rfl, rv, ru⟩ := rr.two
    cases rv with
    | lst s r =>
      cases ru with
      | lst s2 r2 => exact ⟨_, _, _, _, rfl, hide_le.seq s, hide_le.seq s2, h _ H1 st1 W1 (itok_zp s r s2 r2)⟩
  · exact h.elim
end
/-! ### targets -/
/-- the slots other than ts are as they were -/
structure Agree (ts : List Nat) (σ σ' : L2.St) : Prop where
  len : σ'.length = σ.length
  out : ∀ i, i ∉ ts → σ'[i]? = σ[i]?
def PostG (K : PySem.W.Frag) (cl : Cl) (ts : List Nat) (w : Wf) (L : List Addr) (σ : L2.St) (H : Hp) (Q : L2.St → Hp → Prop) : M S → Prop
  | some (.ok s') => ∀ σ' H', Step w L H L H' → Wl K cl w L s' σ' H' → Agree ts σ σ' → Q σ' H'
  | _ => False
def TGof (K : PySem.W.Frag) (cl : Cl) (ts : List Nat) (f : D → S → M S) : TG := fun v σ H Q => ∃ w L sd d, Wl K cl w L sd σ H ∧ Rp K cl (hide (L ++ w.O0) H) v d ∧ PostG K cl ts w L σ H Q (f d sd)
def TGsof (K : PySem.W.Frag) (cl : Cl) (ts : List Nat) (f : List D → S → M S) : TGs := fun vs σ H Q => ∃ w L sd ds, Wl K cl w L sd σ H ∧ RpA K cl (hide (L ++ w.O0) H) vs ds ∧ PostG K cl ts w L σ H Q (f ds sd)
def gNm (i : Nat) : D → S → M S := fun d s => ok (s.set i (.val d))
def gTp (f : List D → S → M S) : D → S → M S := fun d s => match d with
  | .tup ds => f ds s
  | _ => none
def gsNil : List D → S → M S := fun ds s => match ds with
  | [] => ok s
  | _ => none
def gsCons (f : D → S → M S) (g : List D → S → M S) : List D → S → M S := fun ds s => match ds with
  | d :: ds => bd (f d s) fun s1 => g ds s1
  | _ => none
section
variable {X : Cx} {K : PySem.W.Frag} {cl : Cl} {pos : Pos} {w : Wf} {L : List Addr} {sd : S} {σ : L2.St} {H : Hp}
/-- a slot takes a value -/
theorem Wl.set (W : Wl K cl w L sd σ H) {i : Nat} {v : V} {d : D} (r : Rp K cl (hide (L ++ w.O0) H) v d) : Wl K cl w L (sd.set i (.val d)) (σ.set i (some v)) H := by
  have get : ∀ {j : Nat} {x : Sl}, j ≠ i → (sd.set i (.val d))[j]? = some x → sd[j]? = some x := fun h e => by rwa [List.getElem?_set_ne (Ne.symm h)] at e
  have getv : ∀ {j : Nat} {x : Option V}, j ≠ i → σ[j]? = some x → (σ.set i (some v))[j]? = some x := fun h e => by rwa [List.getElem?_set_ne (Ne.symm h)]
  have nown : ∀ {x : Sl}, (sd.set i (.val d))[i]? = some x → x = .val d ∧ i < sd.length := fun {x} e => by
    by_cases h : i < sd.length
    · rw [List.getElem?_set_self h] at e; cases e; exact ⟨rfl, h⟩
    · rw [List.getElem?_eq_none (by simpa using h)] at e; cases e
  refine ⟨W.keep, W.fresh, W.alive, W.disj, W.sub, ⟨fun j e he => ?_, fun j e he => ?_, fun j e he => ?_, fun j k e f a he hf h1 h2 => ?_, fun j k e f he hf => ?_, by simpa using W.st.len⟩⟩
  · by_cases h : j = i
    · subst h
      obtain ⟨q, hl⟩ := nown he
      cases q
      exact ⟨v, List.getElem?_set_self (by rw [W.st.len]; exact hl), r⟩
    · obtain ⟨u, h1, h2⟩ := W.st.val j e (get h he)
      exact ⟨u, getv h h1, h2⟩
  · by_cases h : j = i
    · subst h; cases (nown he).1
    · obtain ⟨a, h1, h2, h3⟩ := W.st.own j e (get h he)
      exact ⟨a, getv h h1, h2, h3⟩
  · by_cases h : j = i
    · subst h; cases (nown he).1
    · obtain ⟨h1, h2, h3⟩ := W.st.io j e (get h he)
      exact ⟨getv h h1, h2, h3⟩
  · by_cases hj : j = i
    · subst hj; cases (nown he).1
    · by_cases hk : k = i
      · subst hk; cases (nown hf).1
      · rw [List.getElem?_set_ne (Ne.symm hj)] at h1
        rw [List.getElem?_set_ne (Ne.symm hk)] at h2
        exact W.st.inj j k e f a (get hj he) (get hk hf) h1 h2
  · by_cases hj : j = i
    · subst hj; cases (nown he).1
    · by_cases hk : k = i
      · subst hk; cases (nown hf).1
      · exact W.st.ioj j k e f (get hj he) (get hk hf)
theorem iG {X : Cx} {e : Expr} {t t' : TG} (h : PG X e t) (k : ∀ v σ H Q, t' v σ H Q → t v σ H Q) : PG X e t' := ⟨fun pins s σ H v u Q I r q => h.run pins s σ H v u Q I r (k v σ H Q q)⟩
theorem iGs {X : Cx} {e : List Expr} {t t' : TGs} (h : PGs X e t) (k : ∀ v σ H Q, t' v σ H Q → t v σ H Q) : PGs X e t' := ⟨fun pins s σ H v u Q I r q => h.run pins s σ H v u Q I r (k v σ H Q q)⟩
theorem g_name (i : Nat) {x : Str} (hN : X.N.Nodup) (hi : X.N[i]? = some x := by rfl) (hx : Loc X.env.scope x := by first | exact Or.inl rfl | exact Or.inr rfl) (hf : X.fn x = true ∨ X.env.scope.names.lookup x = some .local := by first | exact .inl rfl | exact .inr rfl) : PG X (.Name x pos) (TGof K cl [i] (gNm i)) := by
  refine iG (pg_name hN hi hx hf) ?_
  rintro v σ H Q ⟨w, L, sd, d, W, r, h⟩
  exact h _ H .refl (W.set r) ⟨by rw [List.length_set], fun j hj => by
    rw [List.getElem?_set_ne]
    intro e
    exact hj (by simp [e])⟩
theorem gs_nil : PGs X [] (TGsof K cl [] gsNil) := by
  refine iGs pgs_nil ?_
  rintro v σ H Q ⟨w, L, sd, d, W, r, h⟩
  cases r with
  | nil => exact ⟨rfl, h σ H .refl W ⟨rfl, fun _ _ => rfl⟩⟩
  | cons a b => exact h.elim
theorem gs_cons {e : Expr} {es : List Expr} {ts us : List Nat} {f : D → S → M S} {g : List D → S → M S} (h1 : PG X e (TGof K cl ts f)) (h2 : PGs X es (TGsof K cl us g))
    (hs : (assignEach (e :: es) X.env).map (·.2) = assign e X.env :: (assignEach es X.env).map (·.2) := by rfl) : PGs X (e :: es) (TGsof K cl (ts ++ us) (gsCons f g)) := by
  refine iGs (pgs_cons h1 h2 hs) ?_
  rintro vs σ H Q ⟨w, L, sd, ds, W, r, h⟩
  cases r with
  | nil => exact h.elim
  | @cons v vs d ds a b =>
    refine ⟨v, vs, rfl, w, L, sd, d, W, a, ?_⟩
    have h : PostG K cl (ts ++ us) w L σ H Q (bd (f d sd) fun s1 => g ds s1) := h
    match (f d sd : M S), h with
    | none, h => exact h.elim
    | some (.ex _), h => exact h.elim
    | some (.ok s1), h =>
      intro σ1 H1 st1 W1 k1
      refine ⟨w, L, s1, ds, W1, b.mono (st1.sn W1), ?_⟩
      have h : PostG K cl (ts ++ us) w L σ H Q (g ds s1) := h
      match (g ds s1 : M S), h with
      | none, h => exact h.elim
      | some (.ex _), h => exact h.elim
      | some (.ok s2), h =>
        intro σ2 H2 st2 W2 k2
        refine h σ2 H2 (st1.trans st2) W2 ⟨k2.len.trans k1.len, fun i hi => ?_⟩
        rw [k2.out i fun z => hi (List.mem_append_right _ z), k1.out i fun z => hi (List.mem_append_left _ z)]
theorem gsl_nil : ∀ ds s s', gsNil ds s = some (.ok s') → ds.length = 0 := fun ds s s' h => by
  cases ds with
  | nil => rfl
  | cons d ds => cases h
theorem gsl_cons {f : D → S → M S} {g : List D → S → M S} {n : Nat} (hg : ∀ ds s s', g ds s = some (.ok s') → ds.length = n) : ∀ ds s s', gsCons f g ds s = some (.ok s') → ds.length = n + 1 := fun ds s s' h => by
  cases ds with
  | nil => cases h
  | cons d ds =>
    have h : bd (f d s) (fun s1 => g ds s1) = some (.ok s') := h
    generalize f d s = m at h
    match m, h with
    | none, h => cases h
    | some (.ex _), h => cases h
    | some (.ok s1), h =>
      have h : g ds s1 = some (.ok s') := h
      rw [List.length_cons, hg ds s1 s' h]
theorem g_tup {es : List Expr} {k : Nat} {ts : List Nat} {f : List D → S → M S} (hc : X.calm = true) (h : PGs X es (TGsof X.K cl ts f)) (n : Nat) (hf : ∀ ds s s', f ds s = some (.ok s') → ds.length = n)
    (hn : (assignEach es X.env).length = n := by rfl) (hst : (assignEach es X.env).findIdx? (·.1) = none := by rfl) : PG X (.Tuple es k pos) (TGof X.K cl ts (gTp f)) := by
  refine iG (pg_tup hc h hn hst) ?_
  rintro v σ H Q ⟨w, L, sd, d, W, r, h⟩
  cases r with
  | @tup a xs ds s r =>
    have h : PostG X.K cl ts w L σ H Q (f ds sd) := h
    refine ⟨a, xs, rfl, same_sqT hide_le s, ?_, w, L, sd, ds, W, r, h⟩
    rw [r.len]
    generalize e : f ds sd = m at h
    match m, h with
    | none, h => exact h.elim
    | some (.ex _), h => exact h.elim
    | some (.ok s1), _ => exact hf ds sd s1 e
  | _ => exact h.elim
end
end Dt
namespace Dt
open L2 PySem PySem.Spec PyProof.Rows
/-! ### comprehensions -/
def wipeS (s : S) : List Nat → S
  | [] => s
  | v :: vs => (wipeS s vs).set v .un
/-- what a value slot held -/
def keepV : Option Sl → Sl
  | some (.val d) => .val d
  | _ => .un
def restS (s0 s : S) : List Nat → S
  | [] => s
  | v :: vs => (restS s0 s vs).set v (keepV s0[v]?)
theorem wipeS_len (s : S) : ∀ vs : List Nat, (wipeS s vs).length = s.length
  | [] => rfl
  | v :: vs => by rw [wipeS, List.length_set, wipeS_len s vs]
theorem restS_len (s0 s : S) : ∀ vs : List Nat, (restS s0 s vs).length = s.length
  | [] => rfl
  | v :: vs => by rw [restS, List.length_set, restS_len s0 s vs]
theorem wipeS_out (s : S) (i : Nat) : ∀ vs : List Nat, i ∉ vs → (wipeS s vs)[i]? = s[i]?
  | [], _ => rfl
  | v :: vs, h => by
    rw [wipeS, List.getElem?_set_ne (fun e => h (by simp [e]))]
    exact wipeS_out s i vs fun z => h (List.mem_cons_of_mem _ z)
theorem wipeS_in (s : S) (i : Nat) (x : Sl) : ∀ vs : List Nat, i ∈ vs → (wipeS s vs)[i]? = some x → x = .un
  | [], h, _ => by simp at h
  | v :: vs, h, e => by
    rw [wipeS] at e
    by_cases q : v = i
    · subst q
      by_cases hl : v < (wipeS s vs).length
      · rw [List.getElem?_set_self hl] at e; cases e; rfl
      · rw [List.getElem?_eq_none (by simpa using hl)] at e; cases e
    · rw [List.getElem?_set_ne q] at e
      (rcases List.mem_cons.mp h with z | z)
      · exact absurd z.symm q
      · exact wipeS_in s i x vs z e
theorem wipe_out (σ : L2.St) (i : Nat) : ∀ vs : List Nat, i ∉ vs → (wipe σ vs)[i]? = σ[i]?
  | [], _ => rfl
  | v :: vs, h => by
    rw [wipe, List.getElem?_set_ne (fun e => h (by simp [e]))]
    exact wipe_out σ i vs fun z => h (List.mem_cons_of_mem _ z)
theorem wipe_in (σ : L2.St) (i : Nat) : ∀ vs : List Nat, i ∈ vs → (wipe σ vs)[i]? = if i < σ.length then some none else none
  | [], h => by simp at h
  | v :: vs, h => by
    rw [wipe]
    by_cases q : v = i
    · subst q
      rw [List.getElem?_set, if_pos rfl, wipe_length]
    · rw [List.getElem?_set_ne q]
      (rcases List.mem_cons.mp h with z | z)
      · exact absurd z.symm q
      · exact wipe_in σ i vs z
theorem wipe_eq {σ σ' : L2.St} {vs ts : List Nat} (h : Agree ts σ σ') (hs : ∀ i ∈ ts, i ∈ vs) : wipe σ' vs = wipe σ vs := by
  apply List.ext_getElem?
  intro i
  by_cases z : i ∈ vs
  · rw [wipe_in σ' i vs z, wipe_in σ i vs z, h.len]
  · rw [wipe_out σ' i vs z, wipe_out σ i vs z]
    exact h.out i fun y => z (hs i y)
theorem wipe_wipe (σ : L2.St) (vs : List Nat) : wipe (wipe σ vs) vs = wipe σ vs := by
  apply List.ext_getElem?
  intro i
  by_cases z : i ∈ vs
  · rw [wipe_in _ i vs z, wipe_in σ i vs z, wipe_length]
  · rw [wipe_out _ i vs z]
theorem restS_out (s0 s : S) (i : Nat) : ∀ vs : List Nat, i ∉ vs → (restS s0 s vs)[i]? = s[i]?
  | [], _ => rfl
  | v :: vs, h => by
    rw [restS, List.getElem?_set_ne (fun e => h (by simp [e]))]
    exact restS_out s0 s i vs fun z => h (List.mem_cons_of_mem _ z)
theorem restS_in (s0 s : S) (i : Nat) (x : Sl) : ∀ vs : List Nat, i ∈ vs → (restS s0 s vs)[i]? = some x → x = keepV s0[i]?
  | [], h, _ => by simp at h
  | v :: vs, h, e => by
    rw [restS] at e
    by_cases q : v = i
    · subst q
      by_cases hl : v < (restS s0 s vs).length
      · rw [List.getElem?_set_self hl] at e; cases e; rfl
      · rw [List.getElem?_eq_none (by simpa using hl)] at e; cases e
    · rw [List.getElem?_set_ne q] at e
      (rcases List.mem_cons.mp h with z | z)
      · exact absurd z.symm q
      · exact restS_in s0 s i x vs z e
theorem keepV_val {o : Option Sl} {d : D} (h : Sl.val d = keepV o) : o = some (.val d) := by
  match o, h with
  | none, h => cases h
  | some .un, h => cases h
  | some (.val e), h => cases h; rfl
  | some (.own e), h => cases h
  | some (.io e), h => cases h
theorem keepV_own {o : Option Sl} {d : D} (h : Sl.own d = keepV o) : False := by
  match o, h with
  | none, h => cases h
  | some .un, h => cases h
  | some (.val e), h => cases h
  | some (.own e), h => cases h
  | some (.io e), h => cases h
theorem keepV_io {o : Option Sl} {d : D} (h : Sl.io d = keepV o) : False := by
  match o, h with
  | none, h => cases h
  | some .un, h => cases h
  | some (.val e), h => cases h
  | some (.own e), h => cases h
  | some (.io e), h => cases h
def compL (vs : List Nat) (T : D → S → M S) (ft : S → M (Bool × S)) (fe : S → M (D × S)) : List D → S → M (List D × S)
  | [], s => ok ([], s)
  | d :: ds, s => bd (T d s) fun s1 => bd (ft s1) fun p => if p.1 = true then bd (fe p.2) fun q => bd (compL vs T ft fe ds (wipeS q.2 vs)) fun r => ok (q.1 :: r.1, r.2) else compL vs T ft fe ds (wipeS p.2 vs)
def dComp (fi : S → M (List D × S)) (vs : List Nat) (T : D → S → M S) (ft : S → M (Bool × S)) (fe : S → M (D × S)) : S → M (D × S) := fun s =>
  bd (fi s) fun p => if p.1.length ≤ sizeLine then bd (compL vs T ft fe p.1 (wipeS p.2 vs)) fun q => ok (.lst q.1, restS p.2 q.2 vs) else none
def tTrue : S → M (Bool × S) := fun s => ok (true, s)
section
variable {X : Cx} {K : PySem.W.Frag} {cl : Cl} {pos : Pos} {w : Wf} {L : List Addr} {sd : S} {σ : L2.St} {H : Hp}
theorem Wl.wiped (W : Wl K cl w L sd σ H) (vs : List Nat) : Wl K cl w L (wipeS sd vs) (wipe σ vs) H := by
  have back : ∀ {i : Nat} {x : Sl}, x ≠ .un → (wipeS sd vs)[i]? = some x → i ∉ vs ∧ sd[i]? = some x := fun {i x} hx e => by
    by_cases z : i ∈ vs
    · exact absurd (wipeS_in sd i x vs z e) hx
    · rw [wipeS_out sd i vs z] at e; exact ⟨z, e⟩
  refine ⟨W.keep, W.fresh, W.alive, W.disj, W.sub, ⟨fun i d e => ?_, fun i d e => ?_, fun i d e => ?_, fun i j d e a h1 h2 h3 h4 => ?_, fun i j d e h1 h2 => ?_, by rw [wipe_length, wipeS_len]; exact W.st.len⟩⟩
  · obtain ⟨n, e⟩ := back (by simp) e
    rw [wipe_out σ i vs n]
    exact W.st.val i d e
  · obtain ⟨n, e⟩ := back (by simp) e
    rw [wipe_out σ i vs n]
    exact W.st.own i d e
  · obtain ⟨n, e⟩ := back (by simp) e
    rw [wipe_out σ i vs n]
    exact W.st.io i d e
  · obtain ⟨n1, h1⟩ := back (by simp) h1
    obtain ⟨n2, h2⟩ := back (by simp) h2
    rw [wipe_out σ i vs n1] at h3
    rw [wipe_out σ j vs n2] at h4
    exact W.st.inj i j d e a h1 h2 h3 h4
  · exact W.st.ioj i j d e (back (by simp) h1).2 (back (by simp) h2).2
/-- the same with one more address that is hidden from outside -/
abbrev Wf.more (w : Wf) (p : Addr) : Wf := { w with O0 := p :: w.O0 }
theorem mem_more {p a : Addr} {L O : List Addr} : a ∈ L ++ p :: O ↔ a = p ∨ a ∈ L ++ O := by
  simp only [List.mem_append, List.mem_cons]
  constructor
  · rintro (h | h | h)
    · exact .inr (.inl h)
    · exact .inl h
    · exact .inr (.inr h)
  · rintro (h | h | h)
    · exact .inr (.inl h)
    · exact .inl h
    · exact .inr (.inr h)
theorem Wl.more (W : Wl K cl w L sd σ H) {p : Addr} {o : HO} (np : H p = none) : Same (hide (L ++ w.O0) H) (hide (L ++ (w.more p).O0) (upd H p o)) ∧ Wl K cl (w.more p) L sd σ (upd H p o) := by
  have hp := W.new_ne np
  have s := same_upd (o := o) np
  have sh : Same (hide (L ++ w.O0) H) (hide (L ++ (w.more p).O0) (upd H p o)) := fun b u e => by
    obtain ⟨n, e⟩ := hide_some.mp e
    refine hide_some.mpr ⟨fun z => ?_, s b u e⟩
    rcases mem_more.mp z with z | z
    · rw [z, np] at e; cases e
    · exact n z
  have W' := W.ext s
  have own : ∀ {a d}, OwnAt K cl (L ++ w.O0) H a d → OwnAt K cl (L ++ (w.more p).O0) (upd H p o) a d := fun {a d} h => by
    refine h.move ?_ sh
    cases q : H a with
    | none => exact absurd q h.some
    | some o => exact s a o q
  refine ⟨sh, W'.keep, W.fresh, fun a ha => ?_, fun a ha z => ?_, fun a ha => List.mem_cons_of_mem _ (W.sub a ha), ⟨fun i d e => ?_, fun i d e => ?_, fun i d e => ?_, W.st.inj, W.st.ioj, W.st.len⟩⟩
  · rcases mem_more.mp ha with z | z
    · rw [z, upd_same]; simp
    · exact W'.alive a z
  · (rcases List.mem_cons.mp z with z | z)
    · exact hp (List.mem_append_left _ (z ▸ ha))
    · exact W.disj a ha z
  · obtain ⟨v, h1, h2⟩ := W.st.val i d e
    exact ⟨v, h1, h2.mono sh⟩
  · obtain ⟨a, h1, h2, h3⟩ := W.st.own i d e
    exact ⟨a, h1, h2, own h3⟩
  · obtain ⟨h1, h2, h3⟩ := W.st.io i d e
    exact ⟨h1, h2, own h3⟩
theorem Wl.back {H1 : Hp} {s1 sE : S} {vs : List Nat} {p : Addr} (W' : Wl K cl (w.more p) L sE (wipe σ vs) H) (W1 : Wl K cl w L s1 σ H1) (np : H1 p = none) (sh : Same (hide (L ++ w.O0) H1) (hide (L ++ (w.more p).O0) H)) (ex : ∀ i ∈ vs, ∀ x, sE[i]? = some x → x = Sl.un)
    (L2 : List Addr) (h2 : ∀ a ∈ L2, a ∈ L ∨ a = p) (h3 : ∀ a ∈ L, a ∈ L2) : Wl K cl w L2 (restS s1 sE vs) σ H := by
  have sb : Same (hide (L ++ (w.more p).O0) H) (hide (L2 ++ w.O0) H) := hide_sub fun a ha => by
    rcases List.mem_append.mp ha with z | z
    · rcases h2 a z with z | z
      · exact mem_more.mpr (.inr (List.mem_append_left _ z))
      · exact mem_more.mpr (.inl z)
    · exact mem_more.mpr (.inr (List.mem_append_right _ z))
  have hp := W1.new_ne np
  have out : ∀ {i : Nat} {x : Sl}, i ∉ vs → (restS s1 sE vs)[i]? = some x → sE[i]? = some x := fun h e => by rwa [restS_out s1 sE _ vs h] at e
  refine ⟨W'.keep, fun a ha => ?_, fun a ha => ?_, fun a ha => ?_, W1.sub, ⟨fun i d e => ?_, fun i d e => ?_, fun i d e => ?_, fun i j d e a q1 q2 q3 q4 => ?_, fun i j d e q1 q2 => ?_, ?_⟩⟩
  · rcases h2 a ha with z | z
    · exact W1.fresh a z
    · subst z
      cases q : w.H0 a with
      | none => rfl
      | some o =>
        by_cases hI : a ∈ w.I
        · exact absurd (List.mem_append_right _ (W1.sub a hI)) hp
        · have := W1.keep a o hI q
          rw [np] at this; cases this
  · refine W'.alive a (mem_more.mpr ?_)
    rcases List.mem_append.mp ha with z | z
    · rcases h2 a z with z | z
      · exact .inr (List.mem_append_left _ z)
      · exact .inl z
    · exact .inr (List.mem_append_right _ z)
  · rcases h2 a ha with z | z
    · exact W1.disj a z
    · rw [z]; exact fun y => hp (List.mem_append_right _ y)
  · by_cases z : i ∈ vs
    · obtain ⟨v, q1, q2⟩ := W1.st.val i d (keepV_val (restS_in s1 sE i _ vs z e))
      exact ⟨v, q1, (q2.mono sh).mono sb⟩
    · obtain ⟨v, q1, q2⟩ := W'.st.val i d (out z e)
      rw [wipe_out σ i vs z] at q1
      exact ⟨v, q1, q2.mono sb⟩
  · by_cases z : i ∈ vs
    · exact (keepV_own (restS_in s1 sE i _ vs z e)).elim
    · obtain ⟨a, q1, q2, q3⟩ := W'.st.own i d (out z e)
      rw [wipe_out σ i vs z] at q1
      exact ⟨a, q1, h3 a q2, q3.move rfl sb⟩
  · by_cases z : i ∈ vs
    · exact (keepV_io (restS_in s1 sE i _ vs z e)).elim
    · obtain ⟨q1, q2, q3⟩ := W'.st.io i d (out z e)
      rw [wipe_out σ i vs z] at q1
      exact ⟨q1, q2, q3.move rfl sb⟩
  · have z1 : i ∉ vs := fun z => (keepV_own (restS_in s1 sE i _ vs z q1)).elim
    have z2 : j ∉ vs := fun z => (keepV_own (restS_in s1 sE j _ vs z q2)).elim
    refine W'.st.inj i j d e a (out z1 q1) (out z2 q2) ?_ ?_
    · rw [wipe_out σ i vs z1]; exact q3
    · rw [wipe_out σ j vs z2]; exact q4
  · have z1 : i ∉ vs := fun z => (keepV_io (restS_in s1 sE i _ vs z q1)).elim
    have z2 : j ∉ vs := fun z => (keepV_io (restS_in s1 sE j _ vs z q2)).elim
    exact W'.st.ioj i j d e (out z1 q1) (out z2 q2)
  · have := W'.st.len
    rw [wipe_length] at this
    rw [restS_len]; exact this
theorem t_nil : PTs X [] (TTof K cl tTrue) := ⟨fun pins s σ H Q I h => pts_nil.run pins s σ H Q I (by
  obtain ⟨w, L, sd, W, h⟩ := h
  exact h H .refl W)⟩
theorem t_one {c : Expr} {f : S → M (Bool × S)} (h : PT X c (TTof K cl f)) : PTs X [c] (TTof K cl f) := pts_one h
theorem Step.re {w' : Wf} {L' : List Addr} {H' : Hp} (s : Step w L H L' H') (e : w'.I = w.I) : Step w' L H L' H' := ⟨fun b o h1 h2 => s.keep b o h1 (by rw [← e]; exact h2), s.alv, s.new⟩
/-- the reading of a comprehension -/
theorem comp_read {fi : S → M (List D × S)} {vs ts : List Nat} {T : D → S → M S} {ft : S → M (Bool × S)} {fe : S → M (D × S)} (hts : ∀ i ∈ ts, i ∈ vs) :
    ∀ σ H Q, TFof K cl (dComp fi vs T ft fe) σ H Q → tLc (TIof K cl fi) (TGof K cl ts T) (TTof K cl ft) (TEof K cl fe) vs σ H Q := by
  rintro σ H Q ⟨w, L, sd, W, h⟩
  refine ⟨w, L, sd, W, ?_⟩
  unfold dComp at h
  match (fi sd : M (List D × S)), h with
  | none, h => exact h.elim
  | some (.ex _), h => exact h.elim
  | some (.ok (ds, s1)), h =>
    intro J H1 st1 W1 it p np
    have h : PostF K cl w L σ H Q (if ds.length ≤ sizeLine then bd (compL vs T ft fe ds (wipeS s1 vs)) fun q => ok (.lst q.1, restS s1 q.2 vs) else none) := h
    by_cases hz : ds.length ≤ sizeLine
    case neg => rw [if_neg hz] at h; exact h.elim
    rw [if_pos hz] at h
    generalize e0 : compL vs T ft fe ds (wipeS s1 vs) = m at h
    match m, h with
    | none, h => exact h.elim
    | some (.ex _), h => exact h.elim
    | some (.ok (ys, sE)), h =>
      obtain ⟨sh, Wm⟩ := W1.more (p := p) (o := .lst []) np
      have Wm0 := Wm.wiped vs
      have hpI : p ∉ w.I := fun z => W1.new_ne np (List.mem_append_right _ (W1.sub p z))
      have hpL : p ∉ L := fun z => W1.new_ne np (List.mem_append_left _ z)
      refine ⟨fun i m H => m = ds.length - i ∧ i ≤ ds.length ∧ ∃ acc accD s zs, Wl K cl (w.more p) L s (wipe σ vs) H ∧ Step w L H1 L H ∧ H p = some (.lst acc) ∧ RpA K cl (hide (L ++ (w.more p).O0) H) acc accD ∧ acc.length ≤ i ∧
        compL vs T ft fe (ds.drop i) s = ok (zs, sE) ∧ ys = accD ++ zs ∧ (∀ j ∈ vs, ∀ x, s[j]? = some x → x = Sl.un),
        ⟨ds.length, by omega, Nat.zero_le _, [], [], wipeS s1 vs, ys, Wm0, .of_same (same_upd np), upd_same, .nil, Nat.le_refl _, e0, rfl, fun j hj x e => wipeS_in s1 j x vs hj e⟩, ?_⟩
      rintro i m H2 ⟨rfl, hi, acc, accD, s, zs, Ws, stw, hp, ra, hl, ec, ey, hun⟩
      have shi : Same (hide (L ++ w.O0) H1) (hide (L ++ (w.more p).O0) H2) := fun b o z => by
        obtain ⟨n, z'⟩ := hide_some.mp (stw.seen W1.sub b o z)
        refine hide_some.mpr ⟨fun y => ?_, z'⟩
        rcases mem_more.mp y with y | y
        · rw [y] at z; have := hide_le _ _ z; rw [np] at this; cases this
        · exact n y
      by_cases hlt : i < ds.length
      · refine .inr ⟨it.go i _ H2 shi hlt, fun H' => ∃ acc accD s zs, Wl K cl (w.more p) L s (wipe σ vs) H' ∧ Step w L H1 L H' ∧ H' p = some (.lst acc) ∧ RpA K cl (hide (L ++ (w.more p).O0) H') acc accD ∧ acc.length ≤ i + 1 ∧
          compL vs T ft fe (ds.drop (i + 1)) s = ok (zs, sE) ∧ ys = accD ++ zs ∧ (∀ j ∈ vs, ∀ x, s[j]? = some x → x = Sl.un),
          fun H' q => ⟨ds.length - (i + 1), by omega, rfl, hlt, q⟩, fun x H3 hy => ?_⟩
        obtain ⟨sm, hx⟩ := it.yld i _ H2 x H3 shi Ws.alive hy
        have hx := hx ds[i] (List.getElem?_eq_getElem hlt)
        rw [List.drop_eq_getElem_cons hlt] at ec
        have W3 := Ws.ext sm
        have st3 : Step w L H1 L H3 := stw.trans (.of_same sm)
        have ra3 := ra.mono ((Step.of_same (w := w.more p) (L := L) sm).sn Ws)
        have hp3 := sm p _ hp
        refine ⟨w.more p, L, s, ds[i], W3, hx, ?_⟩
        have ec : bd (T ds[i] s) (fun s1 => bd (ft s1) fun p => if p.1 = true then bd (fe p.2) fun q => bd (compL vs T ft fe (ds.drop (i + 1)) (wipeS q.2 vs)) fun r => ok (q.1 :: r.1, r.2) else compL vs T ft fe (ds.drop (i + 1)) (wipeS p.2 vs)) = ok (zs, sE) := ec
        match (T ds[i] s : M S), ec with
        | none, ec => cases ec
        | some (.ex _), ec => cases ec
        | some (.ok s4), ec =>
          intro σ4 H4 st4 W4 k4
          have hw4 : wipe σ4 vs = wipe σ vs := by
            rw [wipe_eq k4 hts, wipe_wipe]
          refine ⟨by rw [hw4], w.more p, L, s4, W4, ?_⟩
          have st4' : Step w L H1 L H4 := st3.trans (st4.re rfl)
          have ec : bd (ft s4) (fun p => if p.1 = true then bd (fe p.2) fun q => bd (compL vs T ft fe (ds.drop (i + 1)) (wipeS q.2 vs)) fun r => ok (q.1 :: r.1, r.2) else compL vs T ft fe (ds.drop (i + 1)) (wipeS p.2 vs)) = ok (zs, sE) := ec
          have keepP : ∀ {Ha Hb : Hp}, Step (w.more p) L Ha L Hb → Ha p = some (.lst acc) → Hb p = some (.lst acc) := fun st e => st.keep p _ hpL (fun z => hpI z) e
          match (ft s4 : M (Bool × S)), ec with
          | none, ec => cases ec
          | some (.ex _), ec => cases ec
          | some (.ok (b, s5)), ec =>
            intro H5 st5 W5
            have st5' : Step w L H1 L H5 := st4'.trans (st5.re rfl)
            have hp5 := keepP (st4.trans st5) hp3
            have ra5 : RpA K cl (hide (L ++ (w.more p).O0) H5) acc accD := ra3.mono ((st4.trans st5).seen Wm.sub)
            cases b with
            | false =>
              refine iteF ?_
              have ec : compL vs T ft fe (ds.drop (i + 1)) (wipeS s5 vs) = ok (zs, sE) := ec
              have W6 := W5.wiped vs
              rw [hw4] at W6
              exact ⟨acc, accD, wipeS s5 vs, zs, W6, st5', hp5, ra5, by omega, ec, ey, fun j hj x e => wipeS_in s5 j x vs hj e⟩
            | true =>
              refine iteT ⟨w.more p, L, s5, W5, ?_⟩
              have ec : bd (fe s5) (fun q => bd (compL vs T ft fe (ds.drop (i + 1)) (wipeS q.2 vs)) fun r => ok (q.1 :: r.1, r.2)) = ok (zs, sE) := ec
              match (fe s5 : M (D × S)), ec with
              | none, ec => cases ec
              | some (.ex _), ec => cases ec
              | some (.ok (y, s6)), ec =>
                intro v H6 st6 W6 rv
                have hp6 := keepP st6 hp5
                have ra6 : RpA K cl (hide (L ++ (w.more p).O0) H6) acc accD := ra5.mono (st6.seen Wm.sub)
                refine ⟨acc, hp6, by omega, ?_⟩
                have ec : bd (compL vs T ft fe (ds.drop (i + 1)) (wipeS s6 vs)) (fun r => ok (y :: r.1, r.2)) = ok (zs, sE) := ec
                generalize e7 : compL vs T ft fe (ds.drop (i + 1)) (wipeS s6 vs) = m7 at ec
                match m7, ec with
                | none, ec => cases ec
                | some (.ex _), ec => cases ec
                | some (.ok (zs', sE')), ec =>
                  cases ec
                  -- the list grows; it is hidden
                  have hne : ∀ a ∈ L, a ≠ p := fun a ha e => hpL (e ▸ ha)
                  have pin : p ∈ L ++ (w.more p).O0 := mem_more.mpr (.inl rfl)
                  have hh : hide (L ++ (w.more p).O0) (upd H6 p (.lst (acc ++ [v]))) = hide (L ++ (w.more p).O0) H6 := by
                    funext b
                    unfold hide
                    by_cases z : b ∈ L ++ (w.more p).O0
                    · rw [if_pos z, if_pos z]
                    · rw [if_neg z, if_neg z, upd_ne]
                      intro e
                      exact z (e ▸ pin)
                  have W7 := W6.wiped vs
                  rw [hw4] at W7
                  have own : ∀ {a d}, a ≠ p → OwnAt K cl (L ++ (w.more p).O0) H6 a d → OwnAt K cl (L ++ (w.more p).O0) (upd H6 p (.lst (acc ++ [v]))) a d := fun {a d} n q => q.move (upd_ne n) (by rw [hh]; exact Same.refl _)
                  have W8 : Wl K cl (w.more p) L (wipeS s6 vs) (wipe σ vs) (upd H6 p (.lst (acc ++ [v]))) := by
                    refine ⟨fun b o n e => ?_, W7.fresh, fun a ha => ?_, W7.disj, W7.sub, ⟨fun i d e => ?_, fun i d e => ?_, fun i d e => ?_, W7.st.inj, W7.st.ioj, W7.st.len⟩⟩
                    · by_cases z : b = p
                      · subst z
                        have := W1.keep b o n e
                        rw [np] at this; cases this
                      · rw [upd_ne z]; exact W7.keep b o n e
                    · by_cases z : a = p
                      · rw [z, upd_same]; simp
                      · rw [upd_ne z]; exact W7.alive a ha
                    · obtain ⟨u, q1, q2⟩ := W7.st.val i d e
                      exact ⟨u, q1, by rw [hh]; exact q2⟩
                    · obtain ⟨a, q1, q2, q3⟩ := W7.st.own i d e
                      exact ⟨a, q1, q2, own (hne a q2) q3⟩
                    · obtain ⟨q1, q2, q3⟩ := W7.st.io i d e
                      exact ⟨q1, q2, own (fun z => hpI (z ▸ q2)) q3⟩
                  refine ⟨acc ++ [v], accD ++ [y], wipeS s6 vs, zs', W8, ?_, upd_same, ?_, by rw [List.length_append]; simp; omega, e7, ?_, fun j hj x e => wipeS_in s6 j x vs hj e⟩
                  · have s6' : Step w L H1 L H6 := st5'.trans (st6.re rfl)
                    refine ⟨fun b o n1 n2 e => ?_, fun b e => ?_, s6'.new⟩
                    · rw [upd_ne (ne_of_none e np)]; exact s6'.keep b o n1 n2 e
                    · by_cases z : b = p
                      · rw [z, upd_same]; simp
                      · rw [upd_ne z]; exact s6'.alv b e
                  · rw [hh]; exact ra6.append (.cons rv .nil)
                  · rw [ey, List.append_assoc]; rfl
      · have ei : i = ds.length := by omega
        subst ei
        rw [List.drop_length] at ec
        have ec : (ok (([] : List D), s) : M (List D × S)) = ok (zs, sE) := ec
        cases ec
        rw [List.append_nil] at ey
        subst ey
        refine .inl ⟨it.stop _ _ H2 shi (Nat.le_refl _), ?_⟩
        have nw : ∀ a ∈ p :: L, a ∈ L ∨ H a = none := fun a ha => by
          rcases List.mem_cons.mp ha with z | z
          · refine .inr ?_
            cases q : H a with
            | none => rfl
            | some o => exact absurd (z ▸ np) (st1.alv a (by rw [q]; simp))
          · exact .inl z
        have sT := st1.trans stw
        refine h p H2 ⟨sT.keep, sT.alv, nw⟩ (W1.new_ne np) ?_ ?_ ⟨acc, hp, ra.mono (hide_sub fun a ha => ?_)⟩
        · exact Ws.back W1 np shi hun L (fun a z => .inl z) (fun a z => z)
        · exact Ws.back W1 np shi hun (p :: L) (fun a z => (List.mem_cons.mp z).symm) (fun a z => List.mem_cons_of_mem _ z)
        · refine mem_more.mpr ?_
          rcases List.mem_cons.mp ha with z | z
          · exact .inl z
          · exact .inr z
/-- [elt for tg in iter ..] -/
theorem f_comp {elt tg iter : Expr} {ifs : List Expr} {scope : Scope} {own : List (Str × Nat)} {fi : S → M (List D × S)} {ts : List Nat} {T : D → S → M S} {ft : S → M (Bool × S)} {fe : S → M (D × S)}
    (hc : X.calm = true) (hN : X.N.Nodup) (hi : PI X tg iter (TIof K cl fi)) (ok : BlkOk X.N X.env.scope scope own)
    (hg : ∀ (s : Shared) (H : Hp) (C : Addr) (cls : List (Str × Addr)) (fp : List Addr), PG (X.blk s H scope (compEnvC scope cls C X.env) fp) tg (TGof K cl ts T))
    (ht : ∀ (s : Shared) (H : Hp) (C : Addr) (cls : List (Str × Addr)) (fp : List Addr), PTs (X.blk s H scope (compEnvC scope cls C X.env) fp) ifs (TTof K cl ft))
    (he : ∀ (s : Shared) (H : Hp) (C : Addr) (cls : List (Str × Addr)) (fp : List Addr), PE (X.blk s H scope (compEnvC scope cls C X.env) fp) elt (TEof K cl fe))
    (hts : ∀ i ∈ ts, i ∈ own.map (·.2)) (hs : ∀ x, foldedSetIterable iter X.env x = pure x := by intro _; rfl) : PE X (.ListComp elt [⟨tg, iter, ifs, 0⟩] scope pos) (TFof K cl (dComp fi (own.map (·.2)) T ft fe)) :=
  iE (pe_lc hc hN hi ok hg ht he hs) (comp_read hts)
end
end Dt
namespace Dt
open L2 PySem PySem.Spec PyProof.Rows
/-! ### statements -/
inductive Out where
  | nx (s : S)
  | bk (s : S)
  | ct (s : S)
  | rt (d : D) (s : S)
  | rf (d : D) (s : S)
def PostS (K : PySem.W.Frag) (cl : Cl) (ts : List Nat) (w : Wf) (L : List Addr) (σ : L2.St) (H : Hp) (E : Ends) : M Out → Prop
  | some (.ok (.nx s')) => ∀ L' σ' H', Step w L H L' H' → Wl K cl w L' s' σ' H' → Agree ts σ σ' → E.nx σ' H'
  | some (.ok (.bk s')) => ∀ L' σ' H', Step w L H L' H' → Wl K cl w L' s' σ' H' → Agree ts σ σ' → E.bk σ' H'
  | some (.ok (.ct s')) => ∀ L' σ' H', Step w L H L' H' → Wl K cl w L' s' σ' H' → Agree ts σ σ' → E.ct σ' H'
  | some (.ok (.rt d s')) => ∀ L' σ' H' v, Step w L H L' H' → Wl K cl w L' s' σ' H' → Rp K cl (hide w.O0 H') v d → E.rt v H'
  | some (.ok (.rf d s')) => ∀ L' σ' H' p, Step w L H L' H' → Wl K cl w L' s' σ' H' → w.H0 p = none → p ∉ w.O0 → OwnAt K cl (p :: w.O0) H' p d → E.rt (.ref p) H'
  | _ => False
def TSof (K : PySem.W.Frag) (cl : Cl) (ts : List Nat) (f : S → M Out) : TS := fun E σ H => ∃ w L sd, Wl K cl w L sd σ H ∧ PostS K cl ts w L σ H E (f sd)
section
variable {K : PySem.W.Frag} {cl : Cl} {w : Wf} {L L1 : List Addr} {σ σ1 : L2.St} {H H1 : Hp} {E E' : Ends} {ts us : List Nat} {s1 : S}
theorem botS : Bot (PostS K cl ts w L σ H E) := ⟨fun h => h, fun _ h => h⟩
theorem Agree.refl : Agree ts σ σ := ⟨rfl, fun _ _ => rfl⟩
theorem Agree.trans {σ2 : L2.St} (a : Agree ts σ σ1) (b : Agree us σ1 σ2) : Agree (ts ++ us) σ σ2 :=
  ⟨b.len.trans a.len, fun i hi => (b.out i fun z => hi (List.mem_append_right _ z)).trans (a.out i fun z => hi (List.mem_append_left _ z))⟩
theorem Agree.le (a : Agree ts σ σ1) (h : ∀ i ∈ ts, i ∈ us) : Agree us σ σ1 := ⟨a.len, fun i hi => a.out i fun z => hi (h i z)⟩
/-- the statement's end, seen from further back -/
theorem PostS.from {m : M Out} (h : PostS K cl us w L σ H E m) (st : Step w L H L1 H1) (ag : ∀ σ', Agree ts σ1 σ' → Agree us σ σ') : PostS K cl ts w L1 σ1 H1 E m := by
  match m, h with
  | none, h => exact h.elim
  | some (.ex _), h => exact h.elim
  | some (.ok (.nx s)), h => exact fun L' σ' H' a b c => h L' σ' H' (st.trans a) b (ag σ' c)
  | some (.ok (.bk s)), h => exact fun L' σ' H' a b c => h L' σ' H' (st.trans a) b (ag σ' c)
  | some (.ok (.ct s)), h => exact fun L' σ' H' a b c => h L' σ' H' (st.trans a) b (ag σ' c)
  | some (.ok (.rt d s)), h => exact fun L' σ' H' v a b c => h L' σ' H' v (st.trans a) b c
  | some (.ok (.rf d s)), h => exact fun L' σ' H' v a b c d e => h L' σ' H' v (st.trans a) b c d e
end
/-! ### blocks -/
def sNil : S → M Out := fun s => ok (.nx s)
def sSeq (F G : S → M Out) : S → M Out := fun s => bd (F s) fun o => match o with
  | .nx s1 => G s1
  | o => ok o
def sBreak : S → M Out := fun s => ok (.bk s)
def sCont : S → M Out := fun s => ok (.ct s)
def sNever : S → M Out := fun _ => none
def sIf (c : S → M (Bool × S)) (F G : S → M Out) : S → M Out := fun s => bd (c s) fun p => if p.1 = true then F p.2 else G p.2
def sSet (i : Nat) (f : S → M (D × S)) : S → M Out := fun s => bd (f s) fun p => ok (.nx (p.2.set i (.val p.1)))
def sOwn (i : Nat) (f : S → M (D × S)) : S → M Out := fun s => bd (f s) fun p => ok (.nx (p.2.set i (.own p.1)))
def sAsg (f : S → M (D × S)) (T : D → S → M S) : S → M Out := fun s => bd (f s) fun p => bd (T p.1 p.2) fun s1 => ok (.nx s1)
def sPar (i j : Nat) (f : S → M (List D × S)) : S → M Out := fun s => bd (f s) fun p => match p.1 with
  | [d, e] => ok (.nx ((p.2.set i (.val d)).set j (.val e)))
  | _ => none
def sPar3 (i j l : Nat) (f : S → M (List D × S)) : S → M Out := fun s => bd (f s) fun p => match p.1 with
  | [d, e, g] => ok (.nx (((p.2.set i (.val d)).set j (.val e)).set l (.val g)))
  | _ => none
def sExpr (f : S → M (D × S)) : S → M Out := fun s => bd (f s) fun p => ok (.nx p.2)
def sRet (f : S → M (D × S)) : S → M Out := fun s => bd (f s) fun p => ok (.rt p.1 p.2)
def sRetF (f : S → M (D × S)) : S → M Out := fun s => bd (f s) fun p => ok (.rf p.1 p.2)
def sRetN : S → M Out := fun s => ok (.rt .non s)
def sRetO (i : Nat) : S → M Out := fun s => match s[i]? with
  | some (.own d) => ok (.rf d s)
  | _ => none
def sAugI (i : Nat) (f : S → M (D × S)) (g : Op2) : S → M Out := fun s => bd (dVar i s) fun q => bd (f q.2) fun p => bd (g q.1 p.1) fun r => ok (.nx (p.2.set i (.val r)))
section
variable {X : Cx} {K : PySem.W.Frag} {cl : Cl} {pos : Pos} {st : Stmt} {rest a b : List Stmt} {ts us : List Nat} {F G : S → M Out} {c : S → M (Bool × S)} {f : S → M (D × S)} {fr : S → M (List D × S)} {e ce : Expr}
theorem s_nil : PSs X [] (TSof K cl [] sNil) := by
  refine iSs pss_nil ?_
  rintro E σ H ⟨w, L, sd, W, h⟩
  exact h L σ H .refl W .refl
theorem seq_read {t u : TS} {E : Ends} {σ : L2.St} {H : Hp} (ht : t = TSof K cl ts F) (hu : u = TSof K cl us G) (h : TSof K cl (ts ++ us) (sSeq F G) E σ H) : tSeq t u E σ H := by
  subst ht hu
  obtain ⟨w, L, sd, W, h⟩ := h
  refine ⟨w, L, sd, W, ?_⟩
  have h : PostS K cl (ts ++ us) w L σ H E (bd (F sd) fun o => match o with
    | .nx s1 => G s1
    | o => ok o) := h
  match (F sd : M Out), h with
  | none, h => exact h.elim
  | some (.ex _), h => exact h.elim
  | some (.ok (.nx s)), h => exact fun L' σ' H' a b c => ⟨w, L', s, b, PostS.from h a fun σ2 d => c.trans d⟩
  | some (.ok (.bk s)), h => exact fun L' σ' H' a b c => h L' σ' H' a b (c.le fun i hi => List.mem_append_left _ hi)
  | some (.ok (.ct s)), h => exact fun L' σ' H' a b c => h L' σ' H' a b (c.le fun i hi => List.mem_append_left _ hi)
  | some (.ok (.rt d s)), h => exact h
  | some (.ok (.rf d s)), h => exact h
theorem s_cons (h1 : PS X st (TSof K cl ts F)) (h2 : PSs X rest (TSof K cl us G)) : PSs X (st :: rest) (TSof K cl (ts ++ us) (sSeq F G)) :=
  iSs (pss_cons h1 h2) fun E σ H h => seq_read rfl rfl h
theorem s_one (h1 : PS X st (TSof K cl ts F)) : PSs X [st] (TSof K cl ts F) := pss_one h1
theorem s_pass : PS X (.Pass pos) (TSof K cl [] sNil) := by
  refine iS ps_pass ?_
  rintro E σ H ⟨w, L, sd, W, h⟩
  exact h L σ H .refl W .refl
theorem s_break : PS X (.Break pos) (TSof K cl [] sBreak) := by
  refine iS ps_break ?_
  rintro E σ H ⟨w, L, sd, W, h⟩
  exact h L σ H .refl W .refl
theorem s_cont : PS X (.Continue pos) (TSof K cl [] sCont) := by
  refine iS ps_continue ?_
  rintro E σ H ⟨w, L, sd, W, h⟩
  exact h L σ H .refl W .refl
theorem s_never : PS X st (TSof K cl [] sNever) := by
  refine iS ps_never ?_
  rintro E σ H ⟨w, L, sd, W, h⟩
  exact h
theorem s_if (hc : PT X ce (TTof K cl c)) (ha : PSs X a (TSof K cl ts F)) (hb : PSs X b (TSof K cl us G)) : PS X (.If ce a b pos) (TSof K cl (ts ++ us) (sIf c F G)) := by
  refine iS (ps_if hc ha hb) ?_
  rintro E σ H ⟨w, L, sd, W, h⟩
  refine ⟨w, L, sd, W, PostT.bd botS h fun r s1 h H1 st1 W1 => ?_⟩
  cases r with
  | true => exact iteT ⟨w, L, s1, W1, PostS.from h st1 fun σ' a => a.le fun i hi => List.mem_append_left _ hi⟩
  | false => exact iteF ⟨w, L, s1, W1, PostS.from h st1 fun σ' a => a.le fun i hi => List.mem_append_right _ hi⟩
theorem agree_set {σ : L2.St} {i : Nat} {x : Option V} : Agree [i] σ (σ.set i x) := ⟨by rw [List.length_set], fun j hj => by
  rw [List.getElem?_set_ne]
  intro e
  exact hj (by simp [e])⟩
theorem s_set (i : Nat) {x : Str} {pos' : Pos} (hN : X.N.Nodup) (he : PE X e (TEof K cl f)) (hi : X.N[i]? = some x := by rfl) (hx : Loc X.env.scope x := by first | exact Or.inl rfl | exact Or.inr rfl) (hs : swapsWith e (some (.Name x pos')) pos.line X.env = pure false := by rfl)
    (hf : X.fn x = true ∨ X.env.scope.names.lookup x = some .local := by first | exact .inl rfl | exact .inr rfl) : PS X (.Assign [.Name x pos'] e pos) (TSof K cl [i] (sSet i f)) := by
  refine iS (ps_set hN hi hx he hs hf) ?_
  rintro E σ H ⟨w, L, sd, W, h⟩
  refine ⟨w, L, sd, W, PostE.bd botS h fun r s1 h v H1 st1 W1 rr => ?_⟩
  exact h L _ H1 st1 (W1.set rr) agree_set
/-- a slot takes a new list of the def's own -/
theorem Wl.setOwn {w : Wf} {L : List Addr} {sd : S} {σ : L2.St} {H : Hp} {p : Addr} {d : D} (i : Nat) (W1 : Wl K cl w L sd σ H) (np : p ∉ L ++ w.O0) (W : Wl K cl w (p :: L) sd σ H) (r : OwnAt K cl (p :: L ++ w.O0) H p d) : Wl K cl w (p :: L) (sd.set i (.own d)) (σ.set i (some (.ref p))) H := by
  have get : ∀ {j : Nat} {x : Sl}, j ≠ i → (sd.set i (.own d))[j]? = some x → sd[j]? = some x := fun h e => by rwa [List.getElem?_set_ne (Ne.symm h)] at e
  have getv : ∀ {j : Nat} {x : Option V}, j ≠ i → σ[j]? = some x → (σ.set i (some (.ref p)))[j]? = some x := fun h e => by rwa [List.getElem?_set_ne (Ne.symm h)]
  have gotv : ∀ {j : Nat} {x : Option V}, j ≠ i → (σ.set i (some (.ref p)))[j]? = some x → σ[j]? = some x := fun h e => by rwa [List.getElem?_set_ne (Ne.symm h)] at e
  have nown : ∀ {x : Sl}, (sd.set i (.own d))[i]? = some x → x = .own d ∧ i < sd.length := fun {x} e => by
    by_cases h : i < sd.length
    · rw [List.getElem?_set_self h] at e; cases e; exact ⟨rfl, h⟩
    · rw [List.getElem?_eq_none (by simpa using h)] at e; cases e
  have other : ∀ {j : Nat} {e : D}, sd[j]? = some (.own e) → σ[j]? = some (some (.ref p)) → False := fun {j e} h1 h2 => by
    obtain ⟨a, q1, q2, _⟩ := W1.st.own j e h1
    rw [h2] at q1
    cases q1
    exact np (List.mem_append_left _ q2)
  refine ⟨W.keep, W.fresh, W.alive, W.disj, W.sub, ⟨fun j e he => ?_, fun j e he => ?_, fun j e he => ?_, fun j k e f a he hf h1 h2 => ?_, fun j k e f he hf => ?_, by simpa using W.st.len⟩⟩
  · by_cases h : j = i
    · subst h; cases (nown he).1
    · obtain ⟨u, h1, h2⟩ := W.st.val j e (get h he)
      exact ⟨u, getv h h1, h2⟩
  · by_cases h : j = i
    · subst h
      obtain ⟨q, hl⟩ := nown he
      cases q
      exact ⟨p, List.getElem?_set_self (by rw [W.st.len]; exact hl), List.mem_cons_self, r⟩
    · obtain ⟨a, h1, h2, h3⟩ := W.st.own j e (get h he)
      exact ⟨a, getv h h1, h2, h3⟩
  · by_cases h : j = i
    · subst h; cases (nown he).1
    · obtain ⟨h1, h2, h3⟩ := W.st.io j e (get h he)
      exact ⟨getv h h1, h2, h3⟩
  · by_cases hj : j = i
    · by_cases hk : k = i
      · rw [hj, hk]
      · subst hj
        have hl := (nown he).2
        rw [List.getElem?_set_self (by rw [W.st.len]; exact hl)] at h1
        cases h1
        exact (other (get hk hf) (gotv hk h2)).elim
    · by_cases hk : k = i
      · subst hk
        have hl := (nown hf).2
        rw [List.getElem?_set_self (by rw [W.st.len]; exact hl)] at h2
        cases h2
        exact (other (get hj he) (gotv hj h1)).elim
      · exact W.st.inj j k e f a (get hj he) (get hk hf) (gotv hj h1) (gotv hk h2)
  · by_cases hj : j = i
    · subst hj; cases (nown he).1
    · by_cases hk : k = i
      · subst hk; cases (nown hf).1
      · exact W.st.ioj j k e f (get hj he) (get hk hf)
theorem s_own (i : Nat) {x : Str} {pos' : Pos} (hN : X.N.Nodup) (he : PE X e (TFof K cl f)) (hi : X.N[i]? = some x := by rfl) (hx : Loc X.env.scope x := by first | exact Or.inl rfl | exact Or.inr rfl) (hs : swapsWith e (some (.Name x pos')) pos.line X.env = pure false := by rfl)
    (hf : X.fn x = true ∨ X.env.scope.names.lookup x = some .local := by first | exact .inl rfl | exact .inr rfl) : PS X (.Assign [.Name x pos'] e pos) (TSof K cl [i] (sOwn i f)) := by
  refine iS (ps_set hN hi hx he hs hf) ?_
  rintro E σ H ⟨w, L, sd, W, h⟩
  refine ⟨w, L, sd, W, PostF.bd botS h fun r s1 h p H1 st1 np W1 W2 ho => ?_⟩
  exact h (p :: L) _ H1 st1 (W1.setOwn i np W2 ho) agree_set
theorem s_asg {tg : Expr} {T : D → S → M S} (he : PE X e (TEof K cl f)) (hg : PG X tg (TGof K cl ts T)) (hs : swapsWithSole [tg] e pos.line X.env = pure false := by rfl) (hw : swappedStores [tg] e X.env = pure none := by rfl)
    (h1 : (assignEach [tg] X.env).map (·.2) = [assign tg X.env] := by rfl) : PS X (.Assign [tg] e pos) (TSof K cl ts (sAsg f T)) := by
  refine iS (ps_asg he hg hs hw h1) ?_
  rintro E σ H ⟨w, L, sd, W, h⟩
  refine ⟨w, L, sd, W, PostE.bd botS h fun r s1 h v H1 st1 W1 rr => ?_⟩
  refine ⟨w, L, s1, r, W1, rr, ?_⟩
  dsimp only at h
  match (T r s1 : M S), h with
  | none, h => exact h.elim
  | some (.ex _), h => exact h.elim
  | some (.ok s2), h => exact fun σ2 H2 st2 W2 ag => h L σ2 H2 (st1.trans st2) W2 ag
theorem s_par {i j : Nat} {x y : Str} {a b : Expr} {px py pt : Pos} {kt k2 pt2} (hc : X.calm = true) (hN : X.N.Nodup) (ha : PA X [a, b] (TAof K cl fr)) (hi : X.N[i]? = some x := by rfl) (hj : X.N[j]? = some y := by rfl) (hij : i ≠ j := by decide)
    (hx : X.env.scope.names.lookup x = some .local := by rfl) (hy : X.env.scope.names.lookup y = some .local := by rfl)
    (hw : swappedStores [.Tuple [.Name x px, .Name y py] kt pt] (.Tuple [a, b] k2 pt2) X.env = pure (some [x, y]) := by rfl)
    (hs : swapsWithSole [.Tuple [.Name x px, .Name y py] kt pt]
          (.Tuple [a, b] k2 pt2) pos.line X.env = pure false := by rfl) :
    PS X (.Assign [.Tuple [.Name x px, .Name y py] kt pt] (.Tuple [a, b] k2 pt2) pos) (TSof K cl ([i] ++ [j]) (sPar i j fr)) := by
  refine iS (ps_par hc hN hi hj hij hx hy ha hw hs) ?_
  rintro E σ H ⟨w, L, sd, W, h⟩
  refine ⟨w, L, sd, W, PostA.bd botS h fun rs s1 h vs H1 st1 W1 rrs => ?_⟩
  dsimp only at h
  split at h
  · obtain ⟨v, u, rfl, r1, r2⟩ := rrs.two
    exact ⟨v, u, rfl, h L _ H1 st1 ((W1.set r1).set r2) (agree_set.trans agree_set)⟩
  · exact h.elim
theorem s_par3 {i j l : Nat} {x y z : Str} {a b c : Expr} {px py pz pt : Pos} {kt k2 pt2} (hc : X.calm = true) (hN : X.N.Nodup) (ha : PA X [a, b, c] (TAof K cl fr)) (hi : X.N[i]? = some x := by rfl) (hj : X.N[j]? = some y := by rfl) (hl : X.N[l]? = some z := by rfl) (hij : i ≠ j := by decide) (hil : i ≠ l := by decide) (hjl : j ≠ l := by decide)
    (hx : X.env.scope.names.lookup x = some .local := by rfl) (hy : X.env.scope.names.lookup y = some .local := by rfl) (hz : X.env.scope.names.lookup z = some .local := by rfl)
    (hw : swappedStores [.Tuple [.Name x px, .Name y py, .Name z pz] kt pt] (.Tuple [a, b, c] k2 pt2) X.env = pure (some [x, y, z]) := by rfl)
    (hs : swapsWithSole [.Tuple [.Name x px, .Name y py, .Name z pz] kt pt]
          (.Tuple [a, b, c] k2 pt2) pos.line X.env = pure false := by rfl) :
    PS X (.Assign [.Tuple [.Name x px, .Name y py, .Name z pz] kt pt] (.Tuple [a, b, c] k2 pt2) pos) (TSof K cl (([i] ++ [j]) ++ [l]) (sPar3 i j l fr)) := by
  refine iS (ps_par3 hc hN hi hj hl hij hil hjl hx hy hz ha hw hs) ?_
  rintro E σ H ⟨w, L, sd, W, h⟩
  refine ⟨w, L, sd, W, PostA.bd botS h fun rs s1 h vs H1 st1 W1 rrs => ?_⟩
  dsimp only at h
  split at h
  · cases rrs with
    | cons r1 rr =>
      obtain ⟨v, u, rfl, r2, r3⟩ := rr.two
      exact ⟨_, v, u, rfl, h L _ H1 st1 (((W1.set r1).set r2).set r3) ((agree_set.trans agree_set).trans agree_set)⟩
  · exact h.elim
theorem s_expr (he : PE X e (TEof K cl f)) (hs : swapsWith e none pos.line X.env = pure false := by rfl) : PS X (.Expr e pos) (TSof K cl [] (sExpr f)) := by
  refine iS (ps_expr he hs) ?_
  rintro E σ H ⟨w, L, sd, W, h⟩
  refine ⟨w, L, sd, W, PostE.bd botS h fun r s1 h v H1 st1 W1 rr => ?_⟩
  exact h L σ H1 st1 W1 .refl
theorem s_ret (he : PE X e (TEof K cl f)) : PS X (.Return (some e) pos) (TSof K cl [] (sRet f)) := by
  refine iS (ps_ret he) ?_
  rintro E σ H ⟨w, L, sd, W, h⟩
  refine ⟨w, L, sd, W, PostE.bd botS h fun r s1 h v H1 st1 W1 rr => ?_⟩
  exact h L σ H1 v st1 W1 (rr.mono W1.seen)
theorem s_retF (he : PE X e (TFof K cl f)) : PS X (.Return (some e) pos) (TSof K cl [] (sRetF f)) := by
  refine iS (ps_ret he) ?_
  rintro E σ H ⟨w, L, sd, W, h⟩
  refine ⟨w, L, sd, W, PostF.bd botS h fun r s1 h p H1 st1 np W1 W2 ho => ?_⟩
  refine h (p :: L) σ H1 p st1 W2 (W2.fresh p List.mem_cons_self) (fun z => np (List.mem_append_right _ z)) (ho.move rfl (hide_sub fun a ha => ?_))
  rcases List.mem_cons.mp ha with z | z
  · rw [z]; exact List.mem_cons_self
  · exact List.mem_cons_of_mem _ (List.mem_append_right _ z)
theorem s_retO (i : Nat) {x : Str} {pos' : Pos} (hN : X.N[i]? = some x := by rfl) (hv : Vis X.env.scope x := by first | exact Or.inl rfl | exact Or.inr (Or.inl rfl) | exact Or.inr (Or.inr rfl))
    (hd : (x == ("__debug__" : Str)) = false := by decide) (hcd : (x == ("__classdict__" : Str)) = false := by decide) : PS X (.Return (some (.Name x pos')) pos) (TSof K cl [] (sRetO i)) := by
  refine iS (ps_ret (pe_var hN hv hd hcd)) ?_
  rintro E σ H ⟨w, L, sd, W, h⟩
  unfold sRetO at h
  split at h
  · next d e =>
    obtain ⟨a, h1, h2, h3⟩ := W.st.own i d e
    refine ⟨_, h1, h L σ H a .refl W (W.fresh a h2) (W.disj a h2) (h3.move rfl (hide_sub fun b hb => ?_))⟩
    (rcases List.mem_cons.mp hb with z | z)
    · rw [z]; exact List.mem_append_left _ h2
    · exact List.mem_append_right _ z
  · exact h.elim
theorem s_retN : PS X (.Return none pos) (TSof K cl [] sRetN) := by
  refine iS ps_retN ?_
  rintro E σ H ⟨w, L, sd, W, h⟩
  exact h L σ H .non .refl W .non
/-- x op= e by a rule of two values -/
theorem s_aug (i : Nat) {x : Str} {op : Operator} {g : Op2} {pos' : Pos} (hN : X.N.Nodup) (ho : OpK X K cl (inplaceOp op) g) (he : PE X e (TEof K cl f)) (hi : X.N[i]? = some x := by rfl) (hx : Loc X.env.scope x := by first | exact Or.inl rfl | exact Or.inr rfl)
    (hf : X.fn x = true ∨ X.env.scope.names.lookup x = some .local := by first | exact .inl rfl | exact .inr rfl) : PS X (.AugAssign (.Name x pos') op e pos) (TSof K cl [i] (sAugI i f g)) := by
  obtain ⟨r, o1, o2⟩ := ho.it
  have ip : PIp X op (fun x y H Q => r x y H Q) := fun pins s σ H x y v u Q I r1 r2 h => o1 pins s σ H x y v u Q I r1 r2 h
  refine iS (ps_aug hN hi hx he ip hf) ?_
  rintro E σ H ⟨w, L, sd, W, h⟩
  unfold sAugI at h
  generalize e0 : dVar i sd = m at h
  unfold dVar at e0
  split at e0
  · next d e1 =>
    subst e0
    obtain ⟨v, h1, h2⟩ := W.st.val i d e1
    have h : PostS K cl [i] w L σ H E (bd (f sd) fun p => bd (g d p.1) fun r => ok (.nx (p.2.set i (.val r)))) := h
    refine ⟨v, h1, w, L, sd, W, PostE.bd botS h fun rd s1 h u H1 st1 W1 rr => ?_⟩
    refine o2 (L ++ w.O0) H1 v u d rd _ W1.alive (h2.mono (st1.sn W1)) rr ?_
    dsimp only at h
    match (g d rd : M D), h with
    | none, h => exact h.elim
    | some (.ex _), h => exact h.elim
    | some (.ok r2), h => exact fun z H3 sm rz => h L _ H3 (st1.trans (.of_same sm)) ((W1.ext sm).set rz) agree_set
  · subst e0; exact h.elim
end
end Dt
namespace Dt
open L2 PySem PySem.Spec PyProof.Rows
/-! ### while -/
def whileN (c : S → M (Bool × S)) (F : S → M Out) : Nat → S → M Out
  | 0, _ => none
  | n + 1, s => bd (c s) fun p => if p.1 = true then bd (F p.2) fun o => match o with
      | .nx s1 => whileN c F n s1
      | .ct s1 => whileN c F n s1
      | .bk s1 => ok (.nx s1)
      | o => ok o
    else ok (.nx p.2)
open Classical in
noncomputable def sWhile (c : S → M (Bool × S)) (F : S → M Out) : S → M Out := fun s => if h : ∃ n o, whileN c F n s = ok o then ok (choose (choose_spec h)) else none
theorem whileN_up {c : S → M (Bool × S)} {F : S → M Out} : ∀ {n : Nat} {s : S} {o : Out}, whileN c F n s = ok o → whileN c F (n + 1) s = ok o
  | 0, _, _, h => by cases h
  | n + 1, s, o, h => by
    rw [whileN] at h ⊢
    match (c s : M (Bool × S)), h with
    | none, h => cases h
    | some (.ex _), h => cases h
    | some (.ok (b, s1)), h =>
      have h : (if b = true then bd (F s1) fun o => match o with
        | .nx s1 => whileN c F n s1
        | .ct s1 => whileN c F n s1
        | .bk s1 => ok (.nx s1)
        | o => ok o
      else ok (.nx s1)) = ok o := h
      show (if b = true then bd (F s1) fun o => match o with
        | .nx s1 => whileN c F (n + 1) s1
        | .ct s1 => whileN c F (n + 1) s1
        | .bk s1 => ok (.nx s1)
        | o => ok o
      else ok (.nx s1)) = ok o
      cases b with
      | false => exact h
      | true =>
        rw [if_pos rfl] at h ⊢
        match (F s1 : M Out), h with
        | none, h => cases h
        | some (.ex _), h => cases h
        | some (.ok (.nx s2)), h => exact whileN_up (n := n) h
        | some (.ok (.ct s2)), h => exact whileN_up (n := n) h
        | some (.ok (.bk s2)), h => exact h
        | some (.ok (.rt d s2)), h => exact h
        | some (.ok (.rf d s2)), h => exact h
theorem whileN_le {c : S → M (Bool × S)} {F : S → M Out} {n : Nat} {s : S} {o : Out} (h : whileN c F n s = ok o) (k : Nat) : whileN c F (n + k) s = ok o := by
  induction k with
  | zero => exact h
  | succ k ih => exact whileN_up ih
theorem sWhile_of {c : S → M (Bool × S)} {F : S → M Out} {n : Nat} {s : S} {o : Out} (h : whileN c F n s = ok o) : sWhile c F s = ok o := by
  have e : ∃ n o, whileN c F n s = ok o := ⟨n, o, h⟩
  unfold sWhile
  rw [dif_pos e]
  have e2 := Classical.choose_spec (Classical.choose_spec e)
  generalize Classical.choose (Classical.choose_spec e) = o2 at e2
  have a := whileN_le h (Classical.choose e)
  have b := whileN_le e2 n
  rw [Nat.add_comm] at b
  exact b.symm.trans a
theorem of_sWhile {c : S → M (Bool × S)} {F : S → M Out} {s : S} {m : M Out} (h : sWhile c F s = m) : m = none ∨ ∃ n o, m = ok o ∧ whileN c F n s = ok o := by
  unfold sWhile at h
  split at h
  · next e => exact .inr ⟨_, _, h.symm, Classical.choose_spec (Classical.choose_spec e)⟩
  · exact .inl h.symm
/-! ### for -/
def forL (T : D → S → M S) (F : S → M Out) : List D → S → M Out
  | [], s => ok (.nx s)
  | d :: ds, s => bd (T d s) fun s1 => bd (F s1) fun o => match o with
    | .nx s2 => forL T F ds s2
    | .ct s2 => forL T F ds s2
    | .bk s2 => ok (.nx s2)
    | o => ok o
def sFor (fi : S → M (List D × S)) (T : D → S → M S) (F : S → M Out) : S → M Out := fun s => bd (fi s) fun p => forL T F p.1 p.2
section
variable {X : Cx} {K : PySem.W.Frag} {cl : Cl} {pos : Pos} {body : List Stmt} {ts us : List Nat} {F : S → M Out} {c : S → M (Bool × S)} {fi : S → M (List D × S)} {T : D → S → M S} {ce tg it : Expr}
theorem s_while (hp : PassesOwn (model X.prog X.w) X.A X.env X.xe) (hc : PT X ce (TTof K cl c)) (hb : PSs X body (TSof K cl ts F)) : PS X (.While ce body [] pos) (TSof K cl ts (sWhile c F)) := by
  refine iS (ps_while hp hc hb) ?_
  rintro E σ0 H0 ⟨w, L0, sd, W, h⟩
  rcases of_sWhile (c := c) (F := F) (s := sd) rfl with e | ⟨n, o, e, hn⟩
  · rw [e] at h; exact h.elim
  rw [e] at h
  refine ⟨fun m σ H => ∃ L s, Wl K cl w L s σ H ∧ Step w L0 H0 L H ∧ Agree ts σ0 σ ∧ whileN c F m s = ok o, ⟨n, L0, sd, W, .refl, .refl, hn⟩, ?_⟩
  rintro m σ H ⟨L, s, Ws, st, ag, hm⟩
  match m, hm with
  | 0, hm => cases hm
  | m + 1, hm =>
    rw [whileN] at hm
    refine ⟨w, L, s, Ws, ?_⟩
    match (c s : M (Bool × S)), hm with
    | none, hm => cases hm
    | some (.ex _), hm => cases hm
    | some (.ok (b, s1)), hm =>
      intro H1 st1 W1
      have st2 := st.trans st1
      cases b with
      | false =>
        refine iteF ?_
        have hm : ok (Out.nx s1) = ok o := hm
        cases hm
        exact h L σ H1 st2 W1 ag
      | true =>
        refine iteT ⟨fun σ' H' => ∃ L s, Wl K cl w L s σ' H' ∧ Step w L0 H0 L H' ∧ Agree ts σ0 σ' ∧ whileN c F m s = ok o, fun σ' H' q => ⟨m, Nat.lt_succ_self _, q⟩, w, L, s1, W1, ?_⟩
        have hm : (bd (F s1) fun o => match o with
          | .nx s1 => whileN c F m s1
          | .ct s1 => whileN c F m s1
          | .bk s1 => ok (.nx s1)
          | o => ok o) = ok o := hm
        have ag2 : ∀ {σ'}, Agree ts σ σ' → Agree ts σ0 σ' := fun q => (ag.trans q).le fun i hi => (List.mem_append.mp hi).elim id id
        match (F s1 : M Out), hm with
        | none, hm => cases hm
        | some (.ex _), hm => cases hm
        | some (.ok (.nx s2)), hm => exact fun L' σ' H' a b q => ⟨L', s2, b, st2.trans a, ag2 q, hm⟩
        | some (.ok (.ct s2)), hm => exact fun L' σ' H' a b q => ⟨L', s2, b, st2.trans a, ag2 q, hm⟩
        | some (.ok (.bk s2)), hm => cases hm; exact fun L' σ' H' a b q => h L' σ' H' (st2.trans a) b (ag2 q)
        | some (.ok (.rt d s2)), hm => cases hm; exact fun L' σ' H' v a b q => h L' σ' H' v (st2.trans a) b q
        | some (.ok (.rf d s2)), hm => cases hm; exact fun L' σ' H' v a b q r t => h L' σ' H' v (st2.trans a) b q r t
theorem s_for (hp : PassesOwn (model X.prog X.w) X.A X.env X.xe) (hi : PI X tg it (TIof K cl fi)) (hg : PG X tg (TGof K cl us T)) (hb : PSs X body (TSof K cl ts F)) (hc : X.calm = true := by rfl) (hs : ∀ v, foldedSetIterable it X.env v = pure v := by intro _; rfl) : PS X (.For tg it body [] pos) (TSof K cl (us ++ ts) (sFor fi T F)) := by
  refine iS (ps_for hp hc hi hg hb hs) ?_
  rintro E σ0 H0 ⟨w, L0, sd, W, h⟩
  unfold sFor at h
  refine ⟨w, L0, sd, W, ?_⟩
  match (fi sd : M (List D × S)), h with
  | none, h => exact h.elim
  | some (.ex _), h => exact h.elim
  | some (.ok (ds, s1)), h =>
    intro J H1 st1 W1 it
    have h : PostS K cl (us ++ ts) w L0 σ0 H0 E (forL T F ds s1) := h
    generalize e0 : forL T F ds s1 = m at h
    match m, h with
    | none, h => exact h.elim
    | some (.ex _), h => exact h.elim
    | some (.ok o), h =>
      refine ⟨fun i m σ H => m = ds.length - i ∧ i ≤ ds.length ∧ ∃ L s, Wl K cl w L s σ H ∧ Step w L0 H1 L H ∧ Agree (us ++ ts) σ0 σ ∧ forL T F (ds.drop i) s = ok o, ⟨ds.length, by omega, Nat.zero_le _, L0, s1, W1, .refl, .refl, e0⟩, ?_⟩
      rintro i m σ H ⟨rfl, hi, L, s, Ws, st, ag, hm⟩
      have shi : Same (hide (L0 ++ w.O0) H1) (hide (L ++ w.O0) H) := st.seen W.sub
      by_cases hlt : i < ds.length
      · refine .inr ⟨it.go i _ H shi hlt, fun σ' H' => ∃ L s, Wl K cl w L s σ' H' ∧ Step w L0 H1 L H' ∧ Agree (us ++ ts) σ0 σ' ∧ forL T F (ds.drop (i + 1)) s = ok o, fun σ' H' q => ⟨ds.length - (i + 1), by omega, rfl, hlt, q⟩, fun x H2 hy => ?_⟩
        obtain ⟨sm, hx⟩ := it.yld i _ H x H2 shi Ws.alive hy
        have hx := hx ds[i] (List.getElem?_eq_getElem hlt)
        rw [List.drop_eq_getElem_cons hlt] at hm
        have W2 := Ws.ext sm
        have st2 := st.trans (.of_same sm)
        refine ⟨w, L, s, ds[i], W2, hx, ?_⟩
        have hm : (bd (T ds[i] s) fun s1 => bd (F s1) fun o => match o with
          | .nx s2 => forL T F (ds.drop (i + 1)) s2
          | .ct s2 => forL T F (ds.drop (i + 1)) s2
          | .bk s2 => ok (.nx s2)
          | o => ok o) = ok o := hm
        match (T ds[i] s : M S), hm with
        | none, hm => cases hm
        | some (.ex _), hm => cases hm
        | some (.ok s3), hm =>
          intro σ3 H3 st3 W3 ag3
          refine ⟨w, L, s3, W3, ?_⟩
          have st3 := st2.trans st3
          have ag4 : ∀ {σ'}, Agree ts σ3 σ' → Agree (us ++ ts) σ0 σ' := fun q => (ag.trans (ag3.trans q)).le fun i hi => (List.mem_append.mp hi).elim id id
          have hm : (bd (F s3) fun o => match o with
            | .nx s2 => forL T F (ds.drop (i + 1)) s2
            | .ct s2 => forL T F (ds.drop (i + 1)) s2
            | .bk s2 => ok (.nx s2)
            | o => ok o) = ok o := hm
          match (F s3 : M Out), hm with
          | none, hm => cases hm
          | some (.ex _), hm => cases hm
          | some (.ok (.nx s4)), hm => exact fun L' σ' H' a b q => ⟨L', s4, b, st3.trans a, ag4 q, hm⟩
          | some (.ok (.ct s4)), hm => exact fun L' σ' H' a b q => ⟨L', s4, b, st3.trans a, ag4 q, hm⟩
          | some (.ok (.bk s4)), hm => cases hm; exact fun L' σ' H' a b q => h L' σ' H' ((st1.trans st3).trans a) b (ag4 q)
          | some (.ok (.rt d s4)), hm => cases hm; exact fun L' σ' H' v a b q => h L' σ' H' v ((st1.trans st3).trans a) b q
          | some (.ok (.rf d s4)), hm => cases hm; exact fun L' σ' H' v a b q r t => h L' σ' H' v ((st1.trans st3).trans a) b q r t
      · have ei : i = ds.length := by omega
        subst ei
        rw [List.drop_length] at hm
        cases hm
        exact .inl ⟨it.stop _ _ H shi (Nat.le_refl _), h L σ H (st1.trans st) Ws ag⟩
end
end Dt
namespace Dt
open L2 PySem PySem.Spec PyProof.Rows
/-! ### lists of the def's own: stored, read, changed -/
/-- the content of an own slot -/
def ownL : Option Sl → Option (List D)
  | some (.own (.lst ds)) => some ds
  | some (.io (.lst ds)) => some ds
  | _ => none
/-- .. changed -/
def putL (s : S) (i : Nat) (ds : List D) : S := match s[i]? with
  | some (.io _) => s.set i (.io (.lst ds))
  | _ => s.set i (.own (.lst ds))
def sApp (i : Nat) (f : S → M (D × S)) : S → M Out := fun s => match ownL s[i]? with
  | some _ => bd (f s) fun p => match ownL p.2[i]? with
    | some ds => if ds.length < sizeLine then ok (.nx (putL p.2 i (ds ++ [p.1]))) else none
    | none => none
  | none => none
def sPut (i : Nat) (fk f : S → M (D × S)) : S → M Out := fun s => bd (f s) fun p => match ownL p.2[i]? with
  | some _ => bd (fk p.2) fun q => match ownL q.2[i]?, q.1 with
    | some ds, .int k => match ixN ds.length k with
      | some j => ok (.nx (putL q.2 i (ds.set j p.1)))
      | none => none
    | _, _ => none
  | none => none
def dOwnIx (i : Nat) (fk : S → M (D × S)) : S → M (D × S) := fun s => match ownL s[i]? with
  | some _ => bd (fk s) fun q => match ownL q.2[i]?, q.1 with
    | some ds, .int k => match atI ds k with
      | some d => ok (d, q.2)
      | none => none
    | _, _ => none
  | none => none
def viewS (s : S) : S := s.map fun x => match x with
  | .own d => .val d
  | .io d => .val d
  | x => x
def dView (f : S → M (D × S)) : S → M (D × S) := fun s => bd (f (viewS s)) fun p => if p.1.scal = true then ok (p.1, s) else none
def tView (f : S → M (Bool × S)) : S → M (Bool × S) := fun s => bd (f (viewS s)) fun p => ok (p.1, s)
/-- an own list becomes a value -/
def pubS (i : Nat) (s : S) : S := match s[i]? with
  | some (.own d) => s.set i (.val d)
  | _ => s
def sPub (i : Nat) (F : S → M Out) : S → M Out := fun s => F (pubS i s)
section
variable {X : Cx} {K : PySem.W.Frag} {cl : Cl} {pos : Pos} {w : Wf} {L : List Addr} {sd : S} {σ : L2.St} {H : Hp} {f fk : S → M (D × S)} {F : S → M Out} {e ke : Expr} {ts : List Nat}
/-- where an own slot's list stands -/
theorem Wl.at (W : Wl K cl w L sd σ H) {i : Nat} {ds : List D} (h : ownL sd[i]? = some ds) : ∃ a xs, σ[i]? = some (some (.ref a)) ∧ (a ∈ L ∨ (a = w.a0 ∧ a ∈ w.I)) ∧ H a = some (.lst xs) ∧ RpA K cl (hide (L ++ w.O0) H) xs ds := by
  match q : sd[i]?, h with
  | some (.own (.lst es)), h =>
    cases h
    obtain ⟨a, h1, h2, xs, h3, h4⟩ := W.st.own i _ q
    exact ⟨a, xs, h1, .inl h2, h3, h4⟩
  | some (.io (.lst es)), h =>
    cases h
    obtain ⟨h1, h2, xs, h3, h4⟩ := W.st.io i _ q
    exact ⟨w.a0, xs, h1, .inr ⟨rfl, h2⟩, h3, h4⟩
theorem hide_in {O : List Addr} {H : Hp} {a : Addr} {o : HO} (h : a ∈ O) : hide O (upd H a o) = hide O H := by
  funext b
  unfold hide
  by_cases z : b ∈ O
  · rw [if_pos z, if_pos z]
  · rw [if_neg z, if_neg z, upd_ne]
    rintro rfl
    exact z h
/-- the data of an own slot -/
def ownD : Option Sl → Option D
  | some (.own d) => some d
  | some (.io d) => some d
  | _ => none
def putD (s : S) (i : Nat) (d : D) : S := match s[i]? with
  | some (.io _) => s.set i (.io d)
  | _ => s.set i (.own d)
theorem putD_len (s : S) (i : Nat) (d : D) : (putD s i d).length = s.length := by
  unfold putD
  split <;> rw [List.length_set]
theorem putD_ne (s : S) (i j : Nat) (d : D) (h : j ≠ i) : (putD s i d)[j]? = s[j]? := by
  unfold putD
  split <;> rw [List.getElem?_set_ne (Ne.symm h)]
theorem Wl.atD (W : Wl K cl w L sd σ H) {i : Nat} {d : D} (h : ownD sd[i]? = some d) : ∃ a, σ[i]? = some (some (.ref a)) ∧ (a ∈ L ∨ (a = w.a0 ∧ a ∈ w.I)) ∧ OwnAt K cl (L ++ w.O0) H a d := by
  match q : sd[i]?, h with
  | some (.own es), h =>
    cases h
    obtain ⟨a, h1, h2, h3⟩ := W.st.own i _ q
    exact ⟨a, h1, .inl h2, h3⟩
  | some (.io es), h =>
    cases h
    obtain ⟨h1, h2, h3⟩ := W.st.io i _ q
    exact ⟨w.a0, h1, .inr ⟨rfl, h2⟩, h3⟩
/-- what an own slot holds is changed, all else stays -/
theorem Wl.wrote (W : Wl K cl w L sd σ H) {H' : Hp} {i : Nat} {d0 d1 : D} {a : Addr} (h : ownD sd[i]? = some d0) (hσ : σ[i]? = some (some (.ref a))) (ha : a ∈ L ∨ (a = w.a0 ∧ a ∈ w.I)) (hl : H a ≠ none)
    (kp : ∀ b o, b ≠ a → H b = some o → H' b = some o) (hnew : OwnAt K cl (L ++ w.O0) H' a d1) : Wl K cl w L (putD sd i d1) σ H' ∧ Step w L H L H' := by
  have hin : a ∈ L ++ w.O0 := by
    rcases ha with z | z
    · (exact List.mem_append_left _ z)
    · exact List.mem_append_right _ (W.sub a z.2)
  have hh : Same (hide (L ++ w.O0) H) (hide (L ++ w.O0) H') := fun b o e => by
    obtain ⟨n, e⟩ := hide_some.mp e
    exact hide_some.mpr ⟨n, kp b o (fun z => n (z ▸ hin)) e⟩
  have own : ∀ {b d}, b ≠ a → OwnAt K cl (L ++ w.O0) H b d → OwnAt K cl (L ++ w.O0) H' b d := fun {b d} n q => by
    refine q.move ?_ hh
    cases z : H b with
    | none => exact absurd z q.some
    | some o => exact kp b o n z
  have hk : (∃ d, sd[i]? = some (.own d)) ∨ ∃ d, sd[i]? = some (.io d) := by
    match q : sd[i]?, h with
    | some (.own es), h => exact .inl ⟨_, rfl⟩
    | some (.io es), h => exact .inr ⟨_, rfl⟩
  have hlen : i < sd.length := by
    rcases hk with ⟨d, e⟩ | ⟨d, e⟩ <;> exact (List.getElem?_eq_some_iff.mp e).1
  have ne_own : ∀ {j : Nat} {d : D} {b : Addr}, j ≠ i → sd[j]? = some (.own d) → σ[j]? = some (some (.ref b)) → b ≠ a := fun {j d b} hj e1 e2 e3 => by
    subst e3
    rcases hk with ⟨d', e⟩ | ⟨d', e⟩
    · exact hj (W.st.inj j i d d' b e1 e e2 hσ)
    · obtain ⟨q1, q2, _⟩ := W.st.io i d' e
      rw [hσ] at q1
      cases q1
      obtain ⟨c, p1, p2, _⟩ := W.st.own j d e1
      rw [e2] at p1
      cases p1
      exact W.disj _ p2 (W.sub _ q2)
  have ne_io : ∀ {j : Nat} {d : D}, j ≠ i → sd[j]? = some (.io d) → w.a0 ≠ a := fun {j d} hj e1 e3 => by
    rcases hk with ⟨d', e⟩ | ⟨d', e⟩
    · obtain ⟨c, p1, p2, _⟩ := W.st.own i d' e
      rw [hσ] at p1
      cases p1
      obtain ⟨_, q2, _⟩ := W.st.io j d e1
      rw [← e3] at p2
      exact W.disj _ p2 (W.sub _ q2)
    · exact hj (W.st.ioj j i d d' e1 e)
  have alv : ∀ b, H b ≠ none → H' b ≠ none := fun b e => by
    by_cases z : b = a
    · rw [z]; exact hnew.some
    · cases q : H b with
      | none => exact absurd q e
      | some o => rw [kp b o z q]; simp
  -- a slot of the new state
  have put : ∀ {j : Nat} {x : Sl}, (putD sd i d1)[j]? = some x → (j ≠ i ∧ sd[j]? = some x) ∨ (j = i ∧ ((x = .own d1 ∧ ∃ d', sd[i]? = some (.own d')) ∨ (x = .io d1 ∧ ∃ d', sd[i]? = some (.io d')))) := fun {j x} e => by
    by_cases hj : j = i
    · subst hj
      refine .inr ⟨rfl, ?_⟩
      unfold putD at e
      rcases hk with ⟨d', q⟩ | ⟨d', q⟩
      · rw [q] at e
        dsimp only at e
        rw [List.getElem?_set_self hlen] at e
        cases e
        exact .inl ⟨rfl, d', q⟩
      · rw [q] at e
        dsimp only at e
        rw [List.getElem?_set_self hlen] at e
        cases e
        exact .inr ⟨rfl, d', q⟩
    · rw [putD_ne _ _ _ _ hj] at e
      exact .inl ⟨hj, e⟩
  have pown : ∀ {j : Nat} {d : D}, (putD sd i d1)[j]? = some (.own d) → ∃ d2, sd[j]? = some (.own d2) := fun {j d} e => by
    rcases put e with ⟨_, q⟩ | ⟨rfl, ⟨_, q⟩ | ⟨q, _⟩⟩
    · exact ⟨d, q⟩
    · exact q
    · cases q
  have pio : ∀ {j : Nat} {d : D}, (putD sd i d1)[j]? = some (.io d) → ∃ d2, sd[j]? = some (.io d2) := fun {j d} e => by
    rcases put e with ⟨_, q⟩ | ⟨rfl, ⟨q, _⟩ | ⟨_, q⟩⟩
    · exact ⟨d, q⟩
    · cases q
    · exact q
  refine ⟨⟨fun b o n e => ?_, W.fresh, fun b hb => alv b (W.alive b hb), W.disj, W.sub, ⟨fun j d e => ?_, fun j d e => ?_, fun j d e => ?_, fun j k d d' b h1 h2 h3 h4 => ?_, fun j k d d' h1 h2 => ?_, by rw [putD_len]; exact W.st.len⟩⟩, ⟨fun b o n1 n2 e => ?_, alv, fun b hb => .inl hb⟩⟩
  · by_cases z : b = a
    · subst z
      rcases ha with y | y
      · rw [W.fresh b y] at e; cases e
      · exact absurd y.2 n
    · exact kp b o z (W.keep b o n e)
  · rcases put e with ⟨hj, q⟩ | ⟨_, ⟨q, _⟩ | ⟨q, _⟩⟩
    · obtain ⟨v, q1, q2⟩ := W.st.val j d q
      exact ⟨v, q1, q2.mono hh⟩
    · cases q
    · cases q
  · rcases put e with ⟨hj, q⟩ | ⟨rfl, ⟨q, d', q'⟩ | ⟨q, _⟩⟩
    · obtain ⟨c, p1, p2, p3⟩ := W.st.own j d q
      exact ⟨c, p1, p2, own (ne_own hj q p1) p3⟩
    · cases q
      obtain ⟨c, p1, p2, _⟩ := W.st.own j d' q'
      rw [hσ] at p1
      cases p1
      exact ⟨a, hσ, p2, hnew⟩
    · cases q
  · rcases put e with ⟨hj, q⟩ | ⟨rfl, ⟨q, _⟩ | ⟨q, d', q'⟩⟩
    · obtain ⟨p1, p2, p3⟩ := W.st.io j d q
      exact ⟨p1, p2, own (ne_io hj q) p3⟩
    · cases q
    · cases q
      obtain ⟨p1, p2, _⟩ := W.st.io j d' q'
      rw [hσ] at p1
      cases p1
      exact ⟨hσ, p2, hnew⟩
  · obtain ⟨_, g1⟩ := pown h1
    obtain ⟨_, g2⟩ := pown h2
    exact W.st.inj j k _ _ b g1 g2 h3 h4
  · obtain ⟨_, g1⟩ := pio h1
    obtain ⟨_, g2⟩ := pio h2
    exact W.st.ioj j k _ _ g1 g2
  · refine kp b o ?_ e
    rintro rfl
    rcases ha with y | y
    · exact n1 y
    · exact n2 y.2
theorem putL_D (s : S) (i : Nat) (ds : List D) : putL s i ds = putD s i (.lst ds) := rfl
theorem ownL_D {o : Option Sl} {ds : List D} (h : ownL o = some ds) : ownD o = some (.lst ds) := by
  match o, h with
  | some (.own (.lst es)), h => cases h; rfl
  | some (.io (.lst es)), h => cases h; rfl
/-- an own list is changed -/
theorem Wl.write (W : Wl K cl w L sd σ H) {i : Nat} {ds es : List D} {a : Addr} {ys : List V} (h : ownL sd[i]? = some ds) (hσ : σ[i]? = some (some (.ref a))) (ha : a ∈ L ∨ (a = w.a0 ∧ a ∈ w.I)) (hl : H a ≠ none)
    (r : RpA K cl (hide (L ++ w.O0) H) ys es) : Wl K cl w L (putL sd i es) σ (upd H a (.lst ys)) ∧ Step w L H L (upd H a (.lst ys)) := by
  have hin : a ∈ L ++ w.O0 := by
    rcases ha with z | z
    · (exact List.mem_append_left _ z)
    · exact List.mem_append_right _ (W.sub a z.2)
  rw [putL_D]
  exact W.wrote (ownL_D h) hσ ha hl (fun b o n e => by rw [upd_ne n]; exact e) ⟨ys, upd_same, by rw [hide_in hin]; exact r⟩
/-- xs.append(e) -/
theorem s_app (i : Nat) {x : Str} {p0 apos cpos : Pos} (he : PE X e (TEof X.K cl f)) (hN : X.N[i]? = some x := by rfl) (hv : Vis X.env.scope x := by first | exact Or.inl rfl | exact Or.inr (Or.inl rfl) | exact Or.inr (Or.inr rfl))
    (hd : (x == ("__debug__"
          : Str)) = false := by decide) (hcd : (x == ("__classdict__" : Str)) = false := by decide)
    (hbase : attributeBase (.Name x p0) "append" X.env (eval (.Name x p0) X.env) = eval (.Name x p0) X.env := by rfl)
    (hfew :
          ((backTo cpos (starEach [e] X.env)).all (fun x => !x.1) && (backToKw cpos (keywordEach [] X.env)).all (fun x => x.1.isSome)
      && decide (([e]
            : List Expr).length + ([] : List Keyword).length + (if ([] : List Keyword).isEmpty then 0 else 1) < 30)) = true := by rfl)
    (hline : (apos.endLine == cpos.line) = true := by rfl) (hs : starEach [e] X.env = (false, eval e X.env) :: starEach [] X.env := by rfl) (hplain : (backTo cpos (starEach [] X.env)).any (·.1) = false := by rfl)
    (hsw : swapsWith (.Call (.Attribute (.Name x p0) "append" apos) [e] [] cpos) none pos.line X.env = pure false := by rfl) :
    PS X (.Expr (.Call (.Attribute (.Name x p0) "append" apos) [e] [] cpos) pos) (TSof X.K cl [] (sApp i f)) := by
  refine iS (ps_expr (pe_bm PySem.F.plainAttrs_list PySem.F.slot_list_append PySem.F.type_list_append mt_append (pe_var hN hv hd hcd) (pa_cons he pa_nil hs) hbase hfew hline hs hplain) hsw) ?_
  rintro E σ H ⟨w, L, sd, W, h⟩
  unfold sApp at h
  split at h
  · next ds0 e0 =>
    obtain ⟨a, xs, h1, h2, h3, h4⟩ := W.at e0
    refine ⟨.ref a, h1, .inl ⟨rfl, xs, SqL.of h3⟩, w, L, sd, W, PostE.bd botS h fun r s1 h v H1 st1 W1 rr => ?_⟩
    dsimp only at h
    split at h
    · next ds e1 =>
      obtain ⟨a', xs', q1, q2, q3, q4⟩ := W1.at e1
      rw [h1] at q1
      cases q1
      split at h
      · next c =>
        obtain ⟨W2, st2⟩ := W1.write (es := ds ++ [r]) (ys := xs' ++ [v]) e1 h1 q2 (by rw [q3]; simp) (q4.append (.cons rr .nil))
        exact ⟨a, xs', v, rfl, rfl, q3, by rw [q4.len]; exact c, h L σ _ (st1.trans st2) W2 .refl⟩
      · exact h.elim
    · exact h.elim
  · exact h.elim
/-- xs[k] = e -/
theorem s_put (i : Nat) {x : Str} {p0 spos : Pos} (he : PE X e (TEof K cl f)) (hk : PE X ke (TEof K cl fk)) (hN : X.N[i]? = some x := by rfl) (hv : Vis X.env.scope x := by first | exact Or.inl rfl | exact Or.inr (Or.inl rfl) | exact Or.inr (Or.inr rfl))
    (hd : (x == ("__debug__"
          : Str)) = false := by decide) (hcd : (x == ("__classdict__" : Str)) = false := by decide)
    (ha : ∀ v, assign (.Subscript (.Name x p0) ke spos) X.env v = (do
      let ov ← holding [v] (eval (.Name x p0) X.env)
      let iv ← holding [v, ov] (eval ke X.env)
      standAt spos
      (holding [v, ov, iv] (setItem ov iv v))
      release [v, ov, iv] []) := by intro _; rfl)
    (hs : swapsWithSole [.Subscript (.Name x p0) ke spos] e pos.line X.env = pure false := by rfl) (hw : swappedStores [.Subscript (.Name x p0) ke spos] e X.env = pure none := by rfl)
    (h1 : (assignEach [.Subscript (.Name x p0) ke spos] X.env).map (·.2) = [assign (.Subscript (.Name x p0) ke spos) X.env] := by rfl) :
    PS X (.Assign [.Subscript (.Name x p0) ke spos] e pos) (TSof K cl [] (sPut i fk f)) := by
  refine iS (ps_asg he (pg_sub (pe_var hN hv hd hcd) hk set_list ha) hs hw h1) ?_
  rintro E σ H ⟨w, L, sd, W, h⟩
  refine ⟨w, L, sd, W, PostE.bd botS h fun r s1 h v H1 st1 W1 rr => ?_⟩
  dsimp only at h
  split at h
  · next ds0 e0 =>
    obtain ⟨a, xs, q1, q2, q3, q4⟩ := W1.at e0
    refine ⟨.ref a, q1, w, L, s1, W1, PostE.bd botS h fun k s2 h u H2 st2 W2 rk => ?_⟩
    dsimp only at h
    split at h
    · next ds k' e1 =>
      cases rk
      obtain ⟨a', xs', p1, p2, p3, p4⟩ := W2.at e1
      rw [q1] at p1
      cases p1
      split at h
      · next j e2 =>
        obtain ⟨W3, st3⟩ := W2.write (es := ds.set j r) (ys := xs'.set j v) e1 q1 p2 (by rw [p3]; simp) (p4.set j (rr.mono (st2.sn W2)))
        exact ⟨a, xs', k', j, rfl, rfl, p3, by rw [p4.len]; exact e2, h L σ _ ((st1.trans st2).trans st3) W3 .refl⟩
      · exact h.elim
    · exact h.elim
  · exact h.elim
/-- xs[k] of an own list -/
theorem d_ownIx (i : Nat) {x : Str} {p0 spos : Pos} (hk : PE X ke (TEof X.K cl fk)) (hp : PlainIx ke := by exact fun _ _ => rfl) (hN : X.N[i]? = some x := by rfl) (hv : Vis X.env.scope x := by first | exact Or.inl rfl | exact Or.inr (Or.inl rfl) | exact Or.inr (Or.inr rfl))
    (hd : (x == ("__debug__" : Str)) = false := by decide) (hcd : (x == ("__classdict__" : Str)) = false := by decide) : PE X (.Subscript (.Name x p0) ke spos) (TEof X.K cl (dOwnIx i fk)) := by
  refine iE (pe_ix ix_list (pe_var hN hv hd hcd) hk hp) ?_
  rintro σ H Q ⟨w, L, sd, W, h⟩
  unfold dOwnIx at h
  split at h
  · next ds0 e0 =>
    obtain ⟨a, xs, q1, q2, q3, q4⟩ := W.at e0
    refine ⟨.ref a, q1, w, L, sd, W, PostE.bd botE h fun k s2 h u H2 st2 W2 rk => ?_⟩
    dsimp only at h
    split at h
    · next ds k' e1 =>
      cases rk
      obtain ⟨a', xs', p1, p2, p3, p4⟩ := W2.at e1
      rw [q1] at p1
      cases p1
      split at h
      · next d e2 =>
        unfold atI at e2
        rw [← p4.len] at e2
        cases e3 : ixN xs'.length k' with
        | none => rw [e3] at e2; cases e2
        | some j =>
          rw [e3] at e2
          obtain ⟨v, g1, g2⟩ := p4.get j e2
          refine ⟨a, xs', k', v, rfl, rfl, SqL.of p3, ?_, h v H2 st2 W2 g2⟩
          unfold atI
          rw [e3]
          exact g1
      · exact h.elim
    · exact h.elim
  · exact h.elim
/-! ### all lists seen for a moment -/
theorem viewS_get (s : S) (i : Nat) : (viewS s)[i]? = (s[i]?).map fun x => match x with
  | .own d => .val d
  | .io d => .val d
  | x => x := by unfold viewS; rw [List.getElem?_map]
theorem Wl.view (W : Wl K cl w L sd σ H) : Wl K cl ⟨w.O0.filter fun a => a ∉ w.I, [], w.a0, H⟩ [] (viewS sd) σ H := by
  have nO : ∀ {a}, a ∈ ([] : List Addr) ++ (w.O0.filter fun a => a ∉ w.I) → a ∈ w.O0 ∧ a ∉ w.I := fun {a} h => by simpa using h
  have sm : Same (hide (L ++ w.O0) H) (hide (([] : List Addr) ++ (w.O0.filter fun a => a ∉ w.I)) H) := hide_sub fun a h => List.mem_append_right _ (nO h).1
  refine ⟨fun _ _ _ e => e, fun a h => by simp at h, fun a h => W.alive a (List.mem_append_right _ (nO h).1), fun a h => by simp at h, fun a h => by simp at h, ⟨fun i d e => ?_, fun i d e => ?_, fun i d e => ?_, fun i j d d' a e => ?_, fun i j d d' e => ?_, by unfold viewS; rw [List.length_map]; exact W.st.len⟩⟩
  · rw [viewS_get] at e
    match q : sd[i]?, e with
    | some (.val d'), e =>
      cases e
      obtain ⟨v, h1, h2⟩ := W.st.val i _ q
      exact ⟨v, h1, h2.mono sm⟩
    | some (.own d'), e =>
      cases e
      obtain ⟨a, h1, h2, h3⟩ := W.st.own i _ q
      exact ⟨.ref a, h1, h3.rp (fun z => W.disj a h2 (nO z).1) sm⟩
    | some (.io d'), e =>
      cases e
      obtain ⟨h1, h2, h3⟩ := W.st.io i _ q
      exact ⟨_, h1, h3.rp (fun z => (nO z).2 h2) sm⟩
  · rw [viewS_get] at e
    match q : sd[i]?, e with
    | some (.val d'), e => cases e
    | some (.own d'), e => cases e
    | some (.io d'), e => cases e
    | some .un, e => cases e
  · rw [viewS_get] at e
    match q : sd[i]?, e with
    | some (.val d'), e => cases e
    | some (.own d'), e => cases e
    | some (.io d'), e => cases e
    | some .un, e => cases e
  · rw [viewS_get] at e
    match q : sd[i]?, e with
    | some (.val d'), e => cases e
    | some (.own d'), e => cases e
    | some (.io d'), e => cases e
    | some .un, e => cases e
  · rw [viewS_get] at e
    match q : sd[i]?, e with
    | some (.val d'), e => cases e
    | some (.own d'), e => cases e
    | some (.io d'), e => cases e
    | some .un, e => cases e
theorem d_view (h : PE X e (TEof K cl f)) : PE X e (TEof K cl (dView f)) := by
  refine iE h ?_
  rintro σ H Q ⟨w, L, sd, W, h⟩
  refine ⟨_, [], _, W.view, PostE.bd (P := PostE K cl w L σ H Q) botE h fun r s1 h v H1 st1 W1 rr => ?_⟩
  have sm : Same H H1 := fun b o e => st1.keep b o (by simp) (by simp) e
  dsimp only at h
  split at h
  · next c => exact h v H1 (.of_same sm) (W.ext sm) (rr.scal c)
  · exact h.elim
theorem t_view {f : S → M (Bool × S)} (h : PT X e (TTof K cl f)) : PT X e (TTof K cl (tView f)) := by
  refine iT h ?_
  rintro σ H Q ⟨w, L, sd, W, h⟩
  refine ⟨_, [], _, W.view, PostT.bd (P := PostT K cl w L σ H Q) botT h fun r s1 h H1 st1 W1 => ?_⟩
  have sm : Same H H1 := fun b o e => st1.keep b o (by simp) (by simp) e
  exact h H1 (.of_same sm) (W.ext sm)
/-! ### an own list is seen from now on -/
theorem pub_read {i0 : Nat} {E : Ends} (h : TSof K cl ts (sPub i0 F) E σ H) : TSof K cl ts F E σ H := by
  obtain ⟨w, L, sd, W, h⟩ := h
  unfold sPub pubS at h
  split at h
  · next d e =>
    obtain ⟨a, h1, h2, h3⟩ := W.st.own i0 d e
    have mem : ∀ {b}, b ∈ L.filter (fun x => x ≠ a) ↔ b ∈ L ∧ b ≠ a := by intro b; simp
    have sm : Same (hide (L ++ w.O0) H) (hide (L.filter (fun x => x ≠ a) ++ w.O0) H) := hide_sub fun b hb => by
      rcases List.mem_append.mp hb with z | z
      · exact List.mem_append_left _ (mem.mp z).1
      · exact List.mem_append_right _ z
    have hlen : i0 < sd.length := (List.getElem?_eq_some_iff.mp e).1
    have na : a ∉ L.filter (fun x => x ≠ a) ++ w.O0 := fun z => by
      rcases List.mem_append.mp z with z | z
      · exact (mem.mp z).2 rfl
      · exact W.disj a h2 z
    have get : ∀ {j : Nat} {x : Sl}, j ≠ i0 → (sd.set i0 (.val d))[j]? = some x → sd[j]? = some x := fun h e => by rwa [List.getElem?_set_ne (Ne.symm h)] at e
    have self : ∀ {x : Sl}, (sd.set i0 (.val d))[i0]? = some x → x = .val d := fun {x} q => by
      rw [List.getElem?_set_self hlen] at q; cases q; rfl
    refine ⟨w, L.filter (fun x => x ≠ a), sd.set i0 (.val d), ⟨W.keep, fun b hb => W.fresh b (mem.mp hb).1, fun b hb => W.alive b ?_, fun b hb => W.disj b (mem.mp hb).1, W.sub, ⟨fun j d' q => ?_, fun j d' q => ?_, fun j d' q => ?_, fun j k d1 d2 b q1 q2 => ?_, fun j k d1 d2 q1 q2 => ?_, by simpa using W.st.len⟩⟩, ?_⟩
    · rcases List.mem_append.mp hb with z | z
      · exact List.mem_append_left _ (mem.mp z).1
      · exact List.mem_append_right _ z
    · by_cases hj : j = i0
      · subst hj
        cases self q
        exact ⟨_, h1, h3.rp na sm⟩
      · obtain ⟨v, p1, p2⟩ := W.st.val j d' (get hj q)
        exact ⟨v, p1, p2.mono sm⟩
    · by_cases hj : j = i0
      · subst hj; cases self q
      · obtain ⟨b, p1, p2, p3⟩ := W.st.own j d' (get hj q)
        refine ⟨b, p1, mem.mpr ⟨p2, ?_⟩, p3.move rfl sm⟩
        rintro rfl
        exact hj (W.st.inj j i0 d' d b (get hj q) e p1 h1)
    · by_cases hj : j = i0
      · subst hj; cases self q
      · obtain ⟨p1, p2, p3⟩ := W.st.io j d' (get hj q)
        exact ⟨p1, p2, p3.move rfl sm⟩
    · by_cases hj : j = i0
      · subst hj; cases self q1
      · by_cases hk : k = i0
        · subst hk; cases self q2
        · exact W.st.inj j k d1 d2 b (get hj q1) (get hk q2)
    · by_cases hj : j = i0
      · subst hj; cases self q1
      · by_cases hk : k = i0
        · subst hk; cases self q2
        · exact W.st.ioj j k d1 d2 (get hj q1) (get hk q2)
    · have st : ∀ {L' H'}, Step w (L.filter fun x => x ≠ a) H L' H' → Step w L H L' H' := fun s => ⟨fun b o n1 n2 e => s.keep b o (fun z => n1 (mem.mp z).1) n2 e, s.alv, fun b hb => (s.new b hb).imp (fun z => (mem.mp z).1) id⟩
      match (F (sd.set i0 (.val d)) : M Out), h with
      | none, h => exact h.elim
      | some (.ex _), h => exact h.elim
      | some (.ok (.nx s)), h => exact fun L' σ' H' a b c => h L' σ' H' (st a) b c
      | some (.ok (.bk s)), h => exact fun L' σ' H' a b c => h L' σ' H' (st a) b c
      | some (.ok (.ct s)), h => exact fun L' σ' H' a b c => h L' σ' H' (st a) b c
      | some (.ok (.rt d s)), h => exact fun L' σ' H' v a b c => h L' σ' H' v (st a) b c
      | some (.ok (.rf d s)), h => exact fun L' σ' H' v a b c d e => h L' σ' H' v (st a) b c d e
  · exact ⟨w, L, sd, W, h⟩
theorem s_pub (i : Nat) {sts : List Stmt} (h : PSs X sts (TSof K cl ts F)) : PSs X sts (TSof K cl ts (sPub i F)) := iSs h fun E σ H q => pub_read q
theorem s_pub1 (i : Nat) {st : Stmt} (h : PS X st (TSof K cl ts F)) : PS X st (TSof K cl ts (sPub i F)) := iS h fun E σ H q => pub_read q
end
end Dt
namespace Dt
open L2 PySem PySem.Spec PyProof.Rows
/-! ### defs, called where nothing is being shown (guards) -/
structure FnG (P : Program) (w : World) (K : PySem.W.Frag) (mg : Str → Option Value) (base : Heap) (CX : CXT) (k : Nat) (f : Addr) (fd : FuncData) (ps : List Str) (sp : Sp) : Prop where
  len : ∀ vs H Q E, sp vs H Q E
        → vs.length = ps.length
  go : ∀ (A : Around) (outer : List Env) (s : Shared) (H : Hp) (args : Args) (us : List Value) (vs : List V) (Q : VK) (E : XK), A.guards = some [] → Room k A →
    Env0 P w K mg base A outer s H → BindsTo s fd args (ps.zip us) → Vals vs us → sp vs H Q E → codeAny (model P w) A (.call (.ref f) args) (CR CX outer P w H s Q E) s
section
variable {P : Program} {w : World} {K : PySem.W.Frag} {mg : Str → Option Value} {base : Heap} {CX : CXT} {k j : Nat} {f : Addr} {fd : FuncData} {ps : List Str} {sp sp' : Sp}
theorem FnG.mono (F : FnG P w K mg base CX j f fd ps sp) (h : j ≤ k) : FnG P w K mg base CX k f fd ps sp :=
  ⟨F.len, fun A outer s H args us vs Q E hg hr => F.go A outer s H args us vs Q E hg (hr.mono h)⟩
theorem FnG.imp (F : FnG P w K mg base CX k f fd ps sp) (h : ∀ vs H Q E, sp' vs H Q E → sp vs H Q E) : FnG P w K mg base CX k f fd ps sp' :=
  ⟨fun vs H Q E q => F.len vs H Q E (h _ _ _ _ q), fun A outer s H args us vs Q E hg hr e b r q => F.go A outer s H args us vs Q E hg hr e b r (h _ _ _ _ q)⟩
/-- one run of a def, by its body -/
theorem run_def {name qual : Str} {params : Arguments} {body : List Stmt} {scope : Scope} {dV kV doc pm cdv ct oc : Value} {an od : Option Addr} {osl : Array (Option Value)} {N : List Str} {A : Around} {outer : List Env} {s : Shared} {H : Hp} {args : Args} {us : List Value} {vs : List V} {Q : VK} {E : XK} {t : TS}
    (at_f : K.lookup f = some ⟨oc, od, .func (PySem.W.fnOf name qual params body scope dV kV doc pm an cdv ct), osl⟩) (code_f : PySem.W.codeIn K cdv qual = true) (sc : FnScope N ps scope) (room : Room (k + 1) A)
    (e0 : Env0 P w K mg base A outer s H) (bt : BindsTo s (PySem.W.fnOf name qual params body scope dV kV doc pm an cdv ct) args (ps.zip us)) (rv : Vals vs us) (nargs : vs.length = ps.length)
    (walk : PSs (cxOf CX P w K mg base N qual scope f cdv A outer s H E) body t) (told : t { nx := fun _ H' => Q .non H', rt := Q } (start N vs) H) :
    codeAny
          (model P w) A (.call (.ref f) args) (CR CX outer P w H s Q E) s := by
  have inK := e0.mod.kin.keeps fun b o e => (e0.bs b o e).1
  have kinds : ∀ y ∈ ps.zip us, scope.names.lookup y.1 = some .local ∨
      (scope.names.lookup y.1 = some .cell ∧ ((cellsFrom (s.heap.objs.size + 1) scope.names []).lookup y.1).isSome = true) := by
    rintro ⟨n, v⟩ hy
    exact (sc.par n (List.of_mem_zip hy).1).imp id fun q => ⟨q, PySem.W.cellsFrom_some _ _ _ (.inl q)⟩
  refine codeAny_call_function room.depth (inK _ _ at_f) rfl sc.co sc.gen rfl
    (PySem.W.codeRec_of inK code_f) (bt _ _ _ _ (wpAny_newFunctionEnv_cells sc.kind kinds fun env he s1 x => ?_))
  subst he
  have lim : s.heap.NoLimit := e0.mod.nolimit.keeps
    fun b o e => (e0.bs b o e).1
  have I0 := inv_start (CX := CX) (E := E) sc room.hd e0 nargs rv x
  refine ⟨lim.keeps x.toInCall.keep, codeAny_func (wpAny_mono (walk.run [] s1 (start N vs) H _ I0 told) ?_ fun _ _ z => z)⟩
  intro fl s' z
  match fl, z with
  | .ret u, ⟨v, σ', H', J, r, q⟩ => exact ⟨v, H', J.os, J.bare, J.base, J.hok, r, q⟩
  | .next, ⟨σ', H', J, q⟩ => exact ⟨.non, H', J.os, J.bare, J.base, J.hok, rfl, q⟩
  | .brk, ⟨_, _, _, q⟩ => exact q.elim
  | .cont, ⟨_, _, _, q⟩ => exact q.elim
/-- a def without defaults -/
theorem okG {x qual : Str} {st : Stmt} {N : List Str} (F : Fun K x qual st f fd) (sc : FnScope N ps (defScope st)) (len : ∀ vs H Q E, sp vs H Q E → vs.length = ps.length)
    (h : ∀ (cdv : Value) (A : Around) (outer : List Env) (s : Shared) (H : Hp) (vs : List V) (Q : VK) (E : XK), A.guards = some [] → Room k (A.deeper (envOfC qual (defScope st) s.heap.objs.size f cdv)) → sp vs H Q E →
      ∃ t, PSs (cxOf CX0 P w K mg base N qual (defScope st) f cdv A outer s H E).nox (defBody st) t ∧ t { nx := fun _ H' => Q .non H', rt := Q } (start N vs) H) : FnG P w K mg base CX0 (k + 1) f fd ps sp := by
  (obtain ⟨oc, od, kV, doc, pm, an, cdv, ct, osl, rfl, lk, hcd⟩ := F.ex)
  refine ⟨len, fun A outer s H args us vs Q E hg hr e0 hb r hs => ?_⟩
  obtain ⟨t, h1, h2⟩ := h cdv A outer s H vs Q E hg (hr.deeper _) hs
  exact run_def lk hcd sc hr e0 hb r (len _ _ _ _ hs) h1.nox h2
/-- a def with defaults -/
theorem okGD {x qual : Str} {params : Arguments} {body : List Stmt} {scope : Scope} {dvs : List V} {kws : List (Str × V)} {N : List Str} (F : FunD K x qual params body scope dvs kws f fd) (sc : FnScope N ps scope) (len : ∀ vs H Q E, sp vs H Q E → vs.length = ps.length)
    (h : ∀ (cdv : Value) (A : Around) (outer : List Env) (s : Shared) (H : Hp) (vs : List V) (Q : VK) (E : XK), A.guards = some [] → Room k (A.deeper (envOfC qual scope s.heap.objs.size f cdv)) → sp vs H Q E →
      ∃ t, PSs (cxOf CX0 P w K mg base N qual scope f cdv A outer s H E).nox body t ∧ t { nx := fun _ H' => Q .non H', rt := Q } (start N vs) H) : FnG P w K mg base CX0 (k + 1) f fd ps sp := by
  (obtain ⟨oc, od, dV, kV, doc, pm, an, cdv, ct, osl, rfl, lk, hcd, _, _⟩ := F.ex)
  refine ⟨len, fun A outer s H args us vs Q E hg hr e0 hb r hs => ?_⟩
  obtain ⟨t, h1, h2⟩ := h cdv A outer s H vs Q E hg (hr.deeper _) hs
  exact run_def lk hcd sc hr e0 hb r (len _ _ _ _ hs) h1.nox h2
end
section
variable {X : Cx} {CX : CXT} {k n : Nat} {f : Addr} {fd : FuncData} {ps ks : List Str} {sp : Sp} {dvs : List V} {ds : List Value} {E : XK} {x : Str} {p pos : Pos} {e : Expr} {es : List Expr} {kws : List Keyword} {t tk : TA} {g : List Value → List Value → List Value} {gV : List V → List V → List V}
theorem ret_of {pins : List (Addr × Obj)} {σ : L2.St} {H : Hp} {s : Shared} {Q : VK} (hx : Passes CX X E) (I : Inv X pins σ H s) : ∀ (r : Result) (s' : Shared), CR CX X.stack X.prog X.w H s Q E r s' →
    (match r with
      | .ok (.ret u) => EP X pins σ Q u s'
      | .error e => X.xe e s'
      | _ => False)
  | .error e, s', h => hx pins σ H s e s' I h
  | .ok (.ret u), s', h => I.after h
  | .ok .next, _, h => h.elim
  | .ok .brk, _, h => h.elim
  | .ok .cont, _, h => h.elim
theorem ran {pins : List (Addr × Obj)} {σ : L2.St} {H : Hp} {s : Shared} {Q : VK} {us : List Value} {kw : List (Str × Value)} (hx : Passes CX X E) (I : Inv X pins σ H s)
    (h : codeAny (model X.prog X.w) X.A (.call (.ref f) ⟨us, kw⟩) (CR CX X.stack X.prog X.w H s Q E) s) : wpAny (model X.prog X.w) X.A (call (.ref f) us kw) (EP X pins σ Q) X.xe s := by
  refine wpAny_call (codeAny_mono h fun r s' hq => ?_)
  have q := ret_of hx I r s' hq
  match r, q with
  | .error e, q => exact q
  | .ok (.ret u), q => exact q
/-- f(e, ..) -/
theorem pe_callG (F : FnG X.prog X.w X.K X.mg X.base CX k f fd ps sp) (hgd : X.A.guards = some []) (hr : Room k X.A) (hm : X.mg x = some (.ref f)) (hk : PySem.W.keepIn X.K (.ref f) = true) (hb : Binds X.K fd ps ds) (hd : Vals dvs ds) (hx : Passes CX X E)
    (ha : PA X (e :: es) t) (hg : Gl X x := by rfl) (hdb : (x == ("__debug__" : Str)) = false := by decide) (hs : starEach (e :: es) X.env = (false, eval e X.env) :: starEach es X.env := by rfl)
    (hpl : (backTo pos (starEach es X.env)).any (·.1) = false := by rfl) : PE X (.Call (.Name x p) (e :: es) [] pos) (tCall sp dvs E t) := by
  constructor
  intro pins s σ H Q I h
  refine wpAny_Call_Name_kw (ld_glob I hg hm (PySem.W.callWith_K (h₀ := X.base) I.ok.mod.kin hk (thn (ha.run pos pins s σ H _ I h) ?_) hs hpl) hdb)
  rintro us s1 ⟨vs, H1, I1, r, q⟩
  have rr : Vals (vs ++ dvs) (us ++ ds) := r.append hd
  have hl : (us ++ ds).length = ps.length := rr.length.symm.trans (F.len _ _ _ _ q)
  exact ⟨I1.kIn, ran hx I1 (F.go X.A X.stack s1 H1 ⟨us, []⟩ (us ++ ds) (vs ++ dvs) Q E hgd hr I1.env0 (hb s1 us I1.kIn hl) rr q)⟩
/-- f() -/
theorem pe_callG0 (F : FnG X.prog X.w X.K X.mg X.base CX k f fd ps sp) (hgd : X.A.guards = some []) (hr : Room k X.A) (hm : X.mg x = some (.ref f)) (hk : PySem.W.keepIn X.K (.ref f) = true) (hb : Binds X.K fd ps ds) (hd : Vals dvs ds) (hx : Passes CX X E)
    (hg : Gl X x := by rfl) (hdb : (x == ("__debug__" : Str)) = false := by decide) : PE X (.Call (.Name x p) [] [] pos) (tCall sp dvs E tNil) := by
  constructor
  intro pins s σ H Q I h
  have q : sp ([] ++ dvs) H Q E := h
  have hl : (([] : List Value) ++ ds).length = ps.length := hd.length.symm.trans (F.len _ _ _ _ q)
  exact wpAny_Call_Name_kw (ld_glob I hg hm (PySem.W.callWith_K0 I.kIn hk (ran hx I (F.go X.A X.stack s H ⟨[], []⟩ ([] ++ ds) ([] ++ dvs) Q E hgd hr I.env0 (hb s [] I.kIn hl) hd q))) hdb)
/-- f(e, .., k = v, ..) -/
theorem pe_callKG (F : FnG X.prog X.w X.K X.mg X.base CX k f fd ps sp) (hgd : X.A.guards = some []) (hr : Room k X.A) (hm : X.mg x = some (.ref f)) (hk : PySem.W.keepIn X.K (.ref f) = true) (hb : KBn X.K fd ps n ks g gV) (hx : Passes CX X E)
    (ha : PA X (e :: es) t) (hkw : PK X kws tk) (hg : Gl X x := by rfl) (hall : (backToKw pos (keywordEach kws X.env)).all (·.1.isSome) = true := by rfl) (hks : (backToKw pos (keywordEach kws X.env)).filterMap (·.1) = ks := by rfl)
    (hdb : (x == ("__debug__" : Str)) = false := by decide) (hs : starEach (e :: es) X.env = (false, eval e X.env) :: starEach es X.env := by rfl)
    (hpl : ((backTo pos
          (starEach (e :: es) X.env)).any (·.1) || (backToKw pos (keywordEach kws X.env)).any (·.1.isNone)) = false := by rfl) :
    PE X (.Call
          (.Name x p) (e :: es) kws pos) (tCallN n ks.length sp gV E t tk) := by
  constructor
  intro pins s σ H Q I h
  refine wpAny_Call_Name_kw (ld_glob I hg hm (PySem.W.callWith_KW (h₀ := X.base) I.ok.mod.kin hk hall (thn (ha.run pos pins s σ H _ I h) ?_) hpl hs) hdb)
  rintro us s1 ⟨vs, H1, I1, r, q⟩
  refine thn (hkw.run pos pins s1 σ H1 _ I1 q) ?_
  rintro ws s2 ⟨zs, H2, I2, rz, l1, l2, q2⟩
  rw [hks]
  have r2 := hb.rel r rz
  exact ⟨I2.kIn, ran hx I2 (F.go X.A X.stack s2 H2 ⟨us, ks.zip ws⟩ (g us ws) (gV vs zs) Q E hgd hr I2.env0 (hb.to s2 us ws I2.kIn (r.length.symm.trans l1) (rz.length.symm.trans l2)) r2 q2)⟩
end
/-! ### promises by functions of the data -/
abbrev FnD := List D → M D
/-- a def that changes nothing: its value by the data of its arguments -/
def spP (K : PySem.W.Frag) (cl : Cl) (n : Nat) (f : FnD) : Sp := fun vs H Q _ => vs.length = n ∧ ∃ (O : List Addr) (ds : List D), (∀ a ∈ O, H a ≠ none) ∧ RpA K cl (hide O H) vs ds ∧ Fin1 K cl O H Q (f ds)
/-- .. that makes a new list or dict -/
def spF (K : PySem.W.Frag) (cl : Cl) (n : Nat) (f : FnD) : Sp := fun vs H Q _ => vs.length = n ∧ ∃ (O : List Addr) (ds : List D), (∀ a ∈ O, H a ≠ none) ∧ RpA K cl (hide O H) vs ds ∧
  (match f ds with
    | some (.ok r) => ∀ p H', Same H H' → H p = none → OwnAt K cl (p :: O) H' p r → Q (.ref p) H'
    | _ => False)
/-- .. that changes its first argument -/
def spI (K : PySem.W.Frag) (cl : Cl) (n : Nat) (f : D → List D → M (D × D)) : Sp := fun vs H Q _ => vs.length = n ∧ ∃ (O : List Addr) (a : Addr) (d : D) (ws : List V) (ds : List D), vs = .ref a :: ws ∧ (∀ b ∈ O, H b ≠ none) ∧ a ∈ O ∧ OwnAt K cl O H a d ∧ RpA K cl (hide O H) ws ds ∧
  (match f d ds with
    | some (.ok (r, d')) => ∀ v H', (∀ b o, b ≠ a → H b = some o → H' b = some o) → OwnAt K cl O H' a d' → Rp K cl (hide O H') v r → Q v H'
    | _ => False)
/-- a def's data from its body's -/
def runP (n : Nat) (F : S → M Out) : FnD := fun ds => bd (F (ds.map Sl.val ++ List.replicate (n - ds.length) Sl.un)) fun (o : Out) => match o with
  | .nx _ => ok .non
  | .rt d _ => ok d
  | .rf d _ => ok d
  | _ => none
def runF (n : Nat) (F : S → M Out) : FnD := fun ds => bd (F (ds.map Sl.val ++ List.replicate (n - ds.length) Sl.un)) fun (o : Out) => match o with
  | .rf d _ => ok d
  | _ => none
def runI (n : Nat) (F : S → M Out) : D → List D → M (D × D) := fun d ds => bd (F (.io d :: (ds.map Sl.val ++ List.replicate (n - (ds.length + 1)) Sl.un))) fun (o : Out) => match o with
  | .nx s => match s[0]? with
    | some (Sl.io d') => ok (.non, d')
    | _ => none
  | .rt r s => match s[0]? with
    | some (Sl.io d') => ok (r, d')
    | _ => none
  | _ => none
section
variable {K : PySem.W.Frag} {cl : Cl} {n : Nat} {H : Hp} {vs : List V} {ds : List D} {O : List Addr}
theorem start_len (N : List Str) (vs : List V) : (start N vs).length = vs.length + (N.length - vs.length) := by
  unfold L2.start
  (rw [List.length_append, List.length_map, List.length_replicate])
/-- the state at the entry -/
theorem wl_start (N : List Str) (al : ∀ a ∈ O, H a ≠ none) (r : RpA K cl (hide O H) vs ds) : Wl K cl ⟨O, [], 0, H⟩ [] (ds.map Sl.val ++ List.replicate (N.length - ds.length) Sl.un) (start N vs) H := by
  have e := r.len
  refine ⟨fun _ _ _ e => e, fun a h => by simp at h, fun a h => al a (by simpa using h), fun a h => by simp at h, fun a h => by simp at h, ⟨fun i d q => ?_, fun i d q => ?_, fun i d q => ?_, fun i j d d' a q => ?_, fun i j d d' q => ?_, ?_⟩⟩
  · by_cases hi : i < ds.length
    · rw [List.getElem?_append_left (by simpa using hi), List.getElem?_map] at q
      cases z : ds[i]? with
      | none => rw [z] at q; cases q
      | some d2 =>
        rw [z] at q
        cases q
        obtain ⟨v, h1, h2⟩ := r.get i z
        refine ⟨v, ?_, h2⟩
        unfold L2.start
        rw [List.getElem?_append_left (by rw [List.length_map]; omega), List.getElem?_map, h1]
        rfl
    · rw [List.getElem?_append_right (by simpa using hi), List.getElem?_replicate] at q
      split at q <;> cases q
  all_goals first
    | (by_cases hi : i < ds.length
       · rw [List.getElem?_append_left (by simpa using hi), List.getElem?_map] at q
         cases z : ds[i]? with
         | none => rw [z] at q; cases q
         | some d2 => rw [z] at q; cases q
       · rw [List.getElem?_append_right (by simpa using hi), List.getElem?_replicate] at q
         split at q <;> cases q)
    | (rw [start_len, List.length_append, List.length_map, List.length_replicate, e])
/-- a body that keeps to its data keeps the promise -/
theorem walkP {N : List Str} {X : Cx} {body : List Stmt} {ts : List Nat} {F : S → M Out} {Q : VK} (hb : PSs X body (TSof K cl ts F)) (h : spP K cl n (runP N.length F) vs H Q E0) : ∃ t, PSs X body t ∧ t { nx := fun _ H' => Q .non H', rt := Q } (start N vs) H := by
  refine ⟨_, hb, ?_⟩
  obtain ⟨_, O, ds, al, r, h⟩ := h
  refine ⟨_, [], _, wl_start N al r, ?_⟩
  unfold runP at h
  match (F (ds.map Sl.val ++ List.replicate (N.length - ds.length) Sl.un) : M Out), h with
  | none, h => exact h.elim
  | some (.ex _), h => exact h.elim
  | some (.ok (.nx s)), h => exact fun L' σ' H' a b c => h .non H' (fun b o e => a.keep b o (by simp) (by simp) e) .non
  | some (.ok (.rt d s)), h => exact fun L' σ' H' v a b c => h v H' (fun b o e => a.keep b o (by simp) (by simp) e) c
  | some (.ok (.rf d s)), h => exact fun L' σ' H' p a b c d e => h (.ref p) H' (fun b o e => a.keep b o (by simp) (by simp) e) (e.rp d (hide_sub fun x hx => List.mem_cons_of_mem _ hx))
theorem walkF {N : List Str} {X : Cx} {body : List Stmt} {ts : List Nat} {F : S → M Out} {Q : VK} (hb : PSs X body (TSof K cl ts F)) (h : spF K cl n (runF N.length F) vs H Q E0) : ∃ t, PSs X body t ∧ t { nx := fun _ H' => Q .non H', rt := Q } (start N vs) H := by
  refine ⟨_, hb, ?_⟩
  obtain ⟨_, O, ds, al, r, h⟩ := h
  refine ⟨_, [], _, wl_start N al r, ?_⟩
  unfold runF at h
  match (F (ds.map Sl.val ++ List.replicate (N.length - ds.length) Sl.un) : M Out), h with
  | none, h => exact h.elim
  | some (.ex _), h => exact h.elim
  | some (.ok (.rf d s)), h => exact fun L' σ' H' p a b c d e => h p H' (fun b o e => a.keep b o (by simp) (by simp) e) c e
/-- the state at the entry, the first argument is changed for the caller -/
theorem wl_startI {a : Addr} {d : D} {ws : List V} (N : List Str) (hN : vs.length ≤ N.length) (e0 : vs = .ref a :: ws) (al : ∀ b ∈ O, H b ≠ none) (ha : a ∈ O) (ho : OwnAt K cl O H a d) (r : RpA K cl (hide O H) ws ds) :
    Wl K cl ⟨O, [a], a, H⟩ [] (.io d :: (ds.map Sl.val ++ List.replicate (N.length - (ds.length + 1)) Sl.un)) (start N vs) H := by
  have e := r.len
  have st : start N vs = some (.ref a) :: (ws.map some ++ List.replicate (N.length - (ds.length + 1)) none) := by
    unfold L2.start
    rw [e0, List.map_cons, List.length_cons, e]
    rfl
  have tl : ∀ {i : Nat} {x : Sl}, (ds.map Sl.val ++ List.replicate (N.length - (ds.length + 1)) Sl.un)[i]? = some x → x = .un ∨ ∃ d2, x = .val d2 ∧ ds[i]? = some d2 := fun {i x} q => by
    by_cases hi : i < ds.length
    · rw [List.getElem?_append_left (by simpa using hi), List.getElem?_map] at q
      cases z : ds[i]? with
      | none => rw [z] at q; cases q
      | some d2 => rw [z] at q; cases q; exact .inr ⟨d2, rfl, rfl⟩
    · rw [List.getElem?_append_right (by simpa using hi), List.getElem?_replicate] at q
      split at q
      · cases q; exact .inl rfl
      · cases q
  refine ⟨fun _ _ _ e => e, fun a h => by simp at h, fun b h => al b (by simpa using h), fun a h => by simp at h, fun b h => by
    have : b = a := by simpa using h
    rw [this]; exact ha, ⟨fun i d' q => ?_, fun i d' q => ?_, fun i d' q => ?_, fun i j d1 d2 b q1 q2 => ?_, fun i j d1 d2 q1 q2 => ?_, ?_⟩⟩
  · cases i with
    | zero => cases q
    | succ i =>
      rw [List.getElem?_cons_succ] at q
      rcases tl q with z | ⟨d2, z, z2⟩
      · cases z
      · cases z
        obtain ⟨v, h1, h2⟩ := r.get i z2
        refine ⟨v, ?_, h2⟩
        have hi := (List.getElem?_eq_some_iff.mp h1).1
        rw [st, List.getElem?_cons_succ, List.getElem?_append_left (by rw [List.length_map]; exact hi), List.getElem?_map, h1]
        rfl
  · cases i with
    | zero => cases q
    | succ i =>
      rw [List.getElem?_cons_succ] at q
      rcases tl q with z | ⟨d2, z, z2⟩ <;> cases z
  · cases i with
    | zero =>
      cases q
      exact ⟨by rw [st]; rfl, by simp, ho⟩
    | succ i =>
      rw [List.getElem?_cons_succ] at q
      rcases tl q with z | ⟨d2, z, z2⟩ <;> cases z
  · cases i with
    | zero => cases q1
    | succ i =>
      rw [List.getElem?_cons_succ] at q1
      rcases tl q1 with z | ⟨d2, z, z2⟩ <;> cases z
  · cases i with
    | zero =>
      cases j with
      | zero => rfl
      | succ j =>
        rw [List.getElem?_cons_succ] at q2
        rcases tl q2 with z | ⟨d2, z, z2⟩ <;> cases z
    | succ i =>
      rw [List.getElem?_cons_succ] at q1
      rcases tl q1 with z | ⟨d2, z, z2⟩ <;> cases z
  · rw [st, List.length_cons, List.length_cons, List.length_append, List.length_append, List.length_map, List.length_map, List.length_replicate, List.length_replicate, e]
theorem walkI {N : List Str} {X : Cx} {body : List Stmt} {ts : List Nat} {F : S → M Out} {Q : VK} (hN : n ≤ N.length) (hb : PSs X body (TSof K cl ts F)) (h : spI K cl n (runI N.length F) vs H Q E0) : ∃ t, PSs X body t ∧ t { nx := fun _ H' => Q .non H', rt := Q } (start N vs) H := by
  refine ⟨_, hb, ?_⟩
  obtain ⟨hn, O, a, d, ws, ds, e0, al, ha, ho, r, h⟩ := h
  refine ⟨_, [], _, wl_startI N (by omega) e0 al ha ho r, ?_⟩
  have fin : ∀ {L' s σ' H' d'}, Wl K cl ⟨O, [a], a, H⟩ L' s σ' H' → s[0]? = some (.io d') → OwnAt K cl O H' a d' := fun {L' s σ' H' d'} W e => (W.st.io 0 d' e).2.2.move rfl (hide_sub fun x hx => List.mem_append_right _ hx)
  have kp : ∀ {L' H'}, Step ⟨O, [a], a, H⟩ [] H L' H' → ∀ b o, b ≠ a → H b = some o → H' b = some o := fun st b o n e => st.keep b o (by simp) (by simpa using n) e
  unfold runI at h
  match (F (.io d :: (ds.map Sl.val ++ List.replicate (N.length - (ds.length + 1)) Sl.un)) : M Out), h with
  | none, h => exact h.elim
  | some (.ex _), h => exact h.elim
  | some (.ok (.nx s)), h =>
    intro L' σ' H' st W _
    dsimp only [bd] at h
    split at h
    · next r d' q =>
      split at q
      · next d2 e => cases q; exact h .non H' (kp st) (fin W e) .non
      · cases q
    · exact h.elim
  | some (.ok (.rt rd s)), h =>
    intro L' σ' H' v st W rr
    dsimp only [bd] at h
    split at h
    · next r d' q =>
      split at q
      · next d2 e => cases q; exact h v H' (kp st) (fin W e) rr
      · cases q
    · exact h.elim
end
end Dt
namespace Dt
open L2 PySem PySem.Spec PyProof.Rows
/-! ### calls of the text's own defs -/
def dCallU (n : Nat) (g : FnD) (dd : List D) (fr : S → M (List D × S)) : S → M (D × S) := fun s => bd (fr s) fun p => if (p.1 ++ dd).length = n then bd (g (p.1 ++ dd)) fun r => ok (r, p.2) else none
def dCallK (n a b : Nat) (g : FnD) (gD : List D → List D → List D) (fr fk : S → M (List D × S)) : S → M (D × S) := fun s => bd (fr s) fun p => bd (fk p.2) fun q =>
  if p.1.length = a ∧ q.1.length = b ∧ (gD p.1 q.1).length = n then bd (g (gD p.1 q.1)) fun r => ok (r, q.2) else none
def dCallI (i n : Nat) (g : D → List D → M (D × D)) (fr : S → M (List D × S)) : S → M (D × S) := fun s => match ownD s[i]? with
  | some _ => bd (fr s) fun p => match ownD p.2[i]? with
    | some d => if p.1.length + 1 = n then bd (g d p.1) fun q => ok (q.1, putD p.2 i q.2) else none
    | none => none
  | none => none
section
variable {X : Cx} {CX : CXT} {k n m : Nat} {f : Addr} {fd : FuncData} {ps ks : List Str} {dvs : List V} {ds : List Value} {dd : List D} {x : Str} {p pos : Pos} {e : Expr} {es : List Expr} {kws : List Keyword} {cl : Cl} {fr fk : S → M (List D × S)} {g : FnD} {gI : D → List D → M (D × D)}
  {gv : List Value → List Value → List Value} {gV : List V → List V → List V} {gD : List D → List D → List D}
theorem call_readP (hdd : ∀ H : Hp, RpA X.K cl H dvs dd) : ∀ σ H Q, TEof X.K cl (dCallU n g dd fr) σ H Q → tCall (spP X.K cl n g) dvs E0 (TAof X.K cl fr) σ H Q := by
  rintro σ H Q ⟨w, L, sd, W, h⟩
  refine ⟨w, L, sd, W, PostA.bd botE h fun rs s1 h vs H1 st1 W1 rrs => ?_⟩
  dsimp only at h
  split at h
  · next c =>
    have rr := rrs.append (hdd (hide (L ++ w.O0) H1))
    exact ⟨rr.len.trans c, L ++ w.O0, _, W1.alive, rr, h.fin st1 W1⟩
  · exact h.elim
theorem d_call (F : FnG X.prog X.w X.K X.mg X.base CX0 k f fd ps (spP X.K cl n g)) (hgd : X.A.guards = some []) (hr : Room k X.A) (hm : X.mg x = some (.ref f)) (hk : PySem.W.keepIn X.K (.ref f) = true) (hb : Binds X.K fd ps ds) (hd : Vals dvs ds) (hdd : ∀ H : Hp, RpA X.K cl H dvs dd)
    (ha : PA X (e :: es) (TAof X.K cl fr)) (hg : Gl X x := by rfl) (hdb : (x == ("__debug__" : Str)) = false := by decide) (hs : starEach (e :: es) X.env = (false, eval e X.env) :: starEach es X.env := by rfl)
    (hpl : (backTo pos (starEach es X.env)).any (·.1) = false := by rfl) : PE X (.Call (.Name x p) (e :: es) [] pos) (TEof X.K cl (dCallU n g dd fr)) :=
  iE (pe_callG F hgd hr hm hk hb hd pass0 ha hg hdb hs hpl) (call_readP hdd)
theorem d_call0 (F : FnG X.prog X.w X.K X.mg X.base CX0 k f fd ps (spP X.K cl n g)) (hgd : X.A.guards = some []) (hr : Room k X.A) (hm : X.mg x = some (.ref f)) (hk : PySem.W.keepIn X.K (.ref f) = true) (hb : Binds X.K fd ps ds) (hd : Vals dvs ds) (hdd : ∀ H : Hp, RpA X.K cl H dvs dd)
    (hg : Gl X x := by rfl) (hdb : (x == ("__debug__" : Str)) = false := by decide) : PE X (.Call (.Name x p) [] [] pos) (TEof X.K cl (dCallU n g dd aNil)) := by
  refine iE (pe_callG0 F hgd hr hm hk hb hd pass0 hg hdb) fun σ H Q h => ?_
  obtain ⟨w, L, sd, W, h⟩ := h
  unfold dCallU at h
  have h : PostE X.K cl w L σ H Q (if dd.length = n then bd (g dd) fun r => ok (r, sd) else none) := h
  split at h
  · next c => exact ⟨(hdd H).len.trans c, L ++ w.O0, dd, W.alive, hdd _, h.fin .refl W⟩
  · exact h.elim
theorem call_readK (hgV : ∀ (H : Hp) vs zs as bs, RpA X.K cl H vs as → RpA X.K cl H zs bs → RpA X.K cl H (gV vs zs) (gD as bs)) {a b : Nat} : ∀ σ H Q, TEof X.K cl (dCallK n a b g gD fr fk) σ H Q → tCallN a b (spP X.K cl n g) gV E0 (TAof X.K cl fr) (TAof X.K cl fk) σ H Q := by
  rintro σ H Q ⟨w, L, sd, W, h⟩
  refine ⟨w, L, sd, W, PostA.bd botE h fun rs s1 h vs H1 st1 W1 rrs => ?_⟩
  refine ⟨w, L, s1, W1, PostA.bd botE h fun qs s2 h zs H2 st2 W2 rqs => ?_⟩
  dsimp only at h
  split at h
  · next c =>
    have r1 := rrs.mono (st2.sn W2)
    have rr := hgV _ _ _ _ _ r1 rqs
    exact ⟨r1.len.trans c.1, rqs.len.trans c.2.1, rr.len.trans c.2.2, L ++ w.O0, _, W2.alive, rr, h.fin (st1.trans st2) W2⟩
  · exact h.elim
theorem d_callK (F : FnG X.prog X.w X.K X.mg X.base CX0 k f fd ps (spP X.K cl n g)) (hgd : X.A.guards = some []) (hr : Room k X.A) (hm : X.mg x = some (.ref f)) (hk : PySem.W.keepIn X.K (.ref f) = true) (hb : KBn X.K fd ps m ks gv gV)
    (hgV : ∀ (H : Hp) vs zs as bs, RpA X.K cl H vs as → RpA X.K cl H zs bs → RpA X.K cl H (gV vs zs) (gD as bs)) (ha : PA X (e :: es) (TAof X.K cl fr)) (hkw : PK X kws (TAof X.K cl fk)) (hg : Gl X x := by rfl)
    (hall : (backToKw pos (keywordEach kws X.env)).all (·.1.isSome) = true := by rfl) (hks : (backToKw pos (keywordEach kws X.env)).filterMap (·.1) = ks := by rfl)
    (hdb : (x == ("__debug__" : Str)) = false := by decide) (hs : starEach (e :: es) X.env = (false, eval e X.env) :: starEach es X.env := by rfl)
    (hpl : ((backTo pos
          (starEach (e :: es) X.env)).any (·.1) || (backToKw pos (keywordEach kws X.env)).any (·.1.isNone)) = false := by rfl) :
    PE X (.Call (.Name x p) (e :: es) kws pos) (TEof X.K cl (dCallK n m ks.length g gD fr fk)) :=
  iE (pe_callKG F hgd hr hm hk hb pass0 ha hkw hg hall hks hdb hs hpl) (call_readK hgV)
/-- f(k = v, ..) -/
theorem d_callK0 (F : FnG X.prog X.w X.K X.mg X.base CX0 k f fd ps (spP X.K cl n g)) (hgd : X.A.guards = some []) (hr : Room k X.A) (hm : X.mg x = some (.ref f)) (hk : PySem.W.keepIn X.K (.ref f) = true) (hb : KBn X.K fd ps 0 ks gv gV)
    (hgV : ∀ (H : Hp) vs zs as bs, RpA X.K cl H vs as → RpA X.K cl H zs bs → RpA X.K cl H (gV vs zs) (gD as bs)) (hkw : PK X kws (TAof X.K cl fk)) (hg : Gl X x := by rfl)
    (hall : (backToKw pos (keywordEach kws X.env)).all (·.1.isSome) = true := by rfl) (hks : (backToKw pos (keywordEach kws X.env)).filterMap (·.1) = ks := by rfl)
    (hdb : (x == ("__debug__" : Str)) = false := by decide)
    (hpl : ((backTo pos
          (starEach [] X.env)).any (·.1) || (backToKw pos (keywordEach kws X.env)).any (·.1.isNone)) = false := by rfl) :
    PE X (.Call (.Name x p) [] kws pos) (TEof X.K cl (dCallK n 0 ks.length g gD aNil fk)) := by
  constructor
  intro pins s σ H Q I h
  obtain ⟨w, L, sd, W, h⟩ := h
  unfold dCallK at h
  have h : PostE X.K cl w L σ H Q (bd (fk sd) fun q => if ([] : List D).length = 0 ∧ q.1.length = ks.length ∧ (gD [] q.1).length = n then bd (g (gD [] q.1)) fun r => ok (r, q.2) else none) := h
  refine wpAny_Call_Name_kw (ld_glob I hg hm (PySem.W.callWith_KW0 (h₀ := X.base) I.ok.mod.kin hk hall (thn (hkw.run pos pins s σ H (fun zs H2 => zs.length = ks.length ∧ spP X.K cl n g (gV [] zs) H2 Q E0) I ?_) ?_) hpl) hdb)
  · refine ⟨w, L, sd, W, PostA.bd botE h fun qs s2 h zs H2 st2 W2 rqs => ?_⟩
    dsimp only at h
    split at h
    · next c =>
      have rr := hgV (hide (L ++ w.O0) H2) [] zs [] qs .nil rqs
      exact ⟨rqs.len.trans c.2.1, rr.len.trans c.2.2, L ++ w.O0, _, W2.alive, rr, h.fin st2 W2⟩
    · exact h.elim
  · rintro ws s2 ⟨zs, H2, I2, rz, l2, q2⟩
    rw [hks]
    have r2 := hb.rel (vs := []) (us := []) .nil rz
    exact ⟨I2.kIn, ran pass0 I2 (F.go X.A X.stack s2 H2 ⟨[], ks.zip ws⟩ (gv [] ws) (gV [] zs) Q E0 hgd hr I2.env0 (hb.to s2 [] ws I2.kIn rfl (rz.length.symm.trans l2)) r2 q2)⟩
theorem k_nil {K : PySem.W.Frag} : PK X [] (TAof K cl aNil) := iK pk_nil nil_read
theorem k_cons {K : PySem.W.Frag} {nm : Option Str} {kpos : Pos} {fa : S → M (D × S)} (ha : PE X e (TEof K cl fa)) (hr : PK X kws (TAof K cl fr)) : PK X (⟨nm, e, kpos⟩ :: kws) (TAof K cl (aCons fa fr)) := iK (pk_cons ha hr) cons_read
/-- a call that makes a list -/
theorem f_call (F : FnG X.prog X.w X.K X.mg X.base CX0 k f fd ps (spF X.K cl n g)) (hgd : X.A.guards = some []) (hr : Room k X.A) (hm : X.mg x = some (.ref f)) (hk : PySem.W.keepIn X.K (.ref f) = true) (hb : Binds X.K fd ps ds) (hd : Vals dvs ds) (hdd : ∀ H : Hp, RpA X.K cl H dvs dd)
    (ha : PA X (e :: es) (TAof X.K cl fr)) (hg : Gl X x := by rfl) (hdb : (x == ("__debug__" : Str)) = false := by decide) (hs : starEach (e :: es) X.env = (false, eval e X.env) :: starEach es X.env := by rfl)
    (hpl : (backTo pos (starEach es X.env)).any (·.1) = false := by rfl) : PE X (.Call (.Name x p) (e :: es) [] pos) (TFof X.K cl (dCallU n g dd fr)) := by
  refine iE (pe_callG F hgd hr hm hk hb hd pass0 ha hg hdb hs hpl) ?_
  rintro σ H Q ⟨w, L, sd, W, h⟩
  refine ⟨w, L, sd, W, PostA.bd botF h fun rs s1 h vs H1 st1 W1 rrs => ?_⟩
  dsimp only at h
  split at h
  · next c =>
    have rr := rrs.append (hdd (hide (L ++ w.O0) H1))
    refine ⟨rr.len.trans c, L ++ w.O0, _, W1.alive, rr, ?_⟩
    generalize g (rs ++ dd) = mm at h
    match mm, h with
    | none, h => exact h.elim
    | some (.ex _), h => exact h.elim
    | some (.ok r), h =>
      intro p H' sm np ho
      have st2 : Step w L H1 (p :: L) H' := ⟨fun b o _ _ e => sm b o e, (Step.of_same (w := w) (L := L) sm).alv, fun a ha => by
        (rcases List.mem_cons.mp ha with rfl | ha)
        · exact .inr np
        · exact .inl ha⟩
      exact h p H' (st1.trans st2) (W1.new_ne np) (W1.ext sm) (W1.made sm np ho.some) ho
  · exact h.elim
/-- a call that changes its first argument, an own list -/
theorem d_callI (i : Nat) {y : Str} {py : Pos} (F : FnG X.prog X.w X.K X.mg X.base CX0 k f fd ps (spI X.K cl n gI)) (hgd : X.A.guards = some []) (hr : Room k X.A) (hm : X.mg x = some (.ref f)) (hk : PySem.W.keepIn X.K (.ref f) = true) (hb : Binds X.K fd ps [])
    (ha : PA X es (TAof X.K cl fr)) (hN : X.N[i]? = some y := by rfl) (hv : Vis X.env.scope y := by first | exact Or.inl rfl | exact Or.inr (Or.inl rfl) | exact Or.inr (Or.inr rfl))
    (hyd : (y == ("__debug__" : Str)) = false := by decide) (hcd : (y == ("__classdict__" : Str)) = false := by decide) (hg : Gl X x := by rfl) (hdb : (x == ("__debug__" : Str)) = false := by decide)
    (hs : starEach (.Name y py :: es) X.env = (false, eval (.Name y py) X.env) :: starEach es X.env := by rfl)
    (hpl : (backTo pos (starEach es X.env)).any (·.1) = false := by rfl) : PE X (.Call (.Name x p) (.Name y py :: es) [] pos) (TEof X.K cl (dCallI i n gI fr)) := by
  refine iE (pe_callG F hgd hr hm hk hb .nil pass0 (pa_cons (pe_var hN hv hyd hcd) ha hs) hg hdb hs hpl) ?_
  rintro σ H Q ⟨w, L, sd, W, h⟩
  unfold dCallI at h
  split at h
  · next d0 e0 =>
    obtain ⟨a, q1, q2, q3⟩ := W.atD e0
    refine ⟨.ref a, q1, w, L, sd, W, PostA.bd botE h fun rs s1 h vs H1 st1 W1 rrs => ?_⟩
    dsimp only at h
    split at h
    · next d e1 =>
      obtain ⟨a', p1, p2, p3⟩ := W1.atD e1
      rw [q1] at p1
      cases p1
      split at h
      · next c =>
        have hin : a ∈ L ++ w.O0 := by
          rcases p2 with z | z
          · (exact List.mem_append_left _ z)
          · exact List.mem_append_right _ (W1.sub a z.2)
        refine ⟨?_, L ++ w.O0, a, d, vs, rs, ?_, W1.alive, hin, p3, rrs, ?_⟩
        · rw [List.append_nil, List.length_cons, rrs.len]; exact c
        · rw [List.append_nil]
        · generalize gI d rs = mm at h
          match mm, h with
          | none, h => exact h.elim
          | some (.ex _), h => exact h.elim
          | some (.ok (r, d')), h =>
            intro v H' kp ho rv
            obtain ⟨W2, st2⟩ := W1.wrote e1 q1 p2 p3.some kp ho
            exact h v H' (st1.trans st2) W2 rv
      · exact h.elim
    · exact h.elim
  · exact h.elim
end
end Dt
namespace Dt
open L2 PySem PySem.Spec PyProof.Rows
/-! ### items and slices -/
def ixL : Op2 := fun d e => match d, e with
  | .lst ds, .int k => match atI ds k with
    | some r => ok r
    | none => none
  | _, _ => none
def ixT : Op2 := fun d e => match d, e with
  | .tup ds, .int k => match atI ds k with
    | some r => ok r
    | none => none
  | _, _ => none
def cutD (xs : List D) (lo hi : Option Int) : List D := (xs.drop (HT.sIx xs.length 0 lo)).take (HT.sIx xs.length xs.length hi - HT.sIx xs.length 0 lo)
def partNo : S → M (Option Int × S) := fun s => ok (none, s)
def partAt (f : S → M (D × S)) : S → M (Option Int × S) := fun s => bd (f s) fun p => match p.1 with
  | .int i => ok (some i, p.2)
  | _ => none
def dCutL (f : S → M (D × S)) (fl fh : S → M (Option Int × S)) : S → M (D × S) := fun s => bd (f s) fun p => match p.1 with
  | .lst xs => bd (fl p.2) fun q => bd (fh q.2) fun r => ok (.lst (cutD xs q.1 r.1), r.2)
  | _ => none
def dCutT (f : S → M (D × S)) (fl fh : S → M (Option Int × S)) : S → M (D × S) := fun s => bd (f s) fun p => match p.1 with
  | .tup xs => bd (fl p.2) fun q => bd (fh q.2) fun r => ok (.tup (cutD xs q.1 r.1), r.2)
  | _ => none
def dRev (f : S → M (D × S)) : S → M (D × S) := fun s => bd (f s) fun p => match p.1 with
  | .lst xs => ok (.lst xs.reverse, p.2)
  | _ => none
def catL : Op2 := fun d e => match d, e with
  | .lst xs, .lst ys => if xs.length + ys.length ≤ sizeLine then ok (.lst (xs ++ ys)) else none
  | _, _ => none
def catT : Op2 := fun d e => match d, e with
  | .tup xs, .tup ys => if xs.length + ys.length ≤ sizeLine then ok (.tup (xs ++ ys)) else none
  | _, _ => none
def PostO (K : PySem.W.Frag) (cl : Cl) (w : Wf) (L : List Addr) (σ : L2.St) (H : Hp) (Q : Option Int → Hp → Prop) : M (Option Int × S) → Prop
  | some (.ok (o, s')) => ∀ H', Step w L H L H' → Wl K cl w L s' σ H' → Q o H'
  | _ => False
def TOof (K : PySem.W.Frag) (cl : Cl) (f : S → M (Option Int × S)) : TO := fun σ H Q => ∃ w L sd, Wl K cl w L sd σ H ∧ PostO K cl w L σ H Q (f sd)
section
variable {X : Cx} {K : PySem.W.Frag} {cl : Cl} {pos p2 : Pos} {a b e : Expr} {lo hi : Option Expr} {fa fb f : S → M (D × S)} {fl fh : S → M (Option Int × S)} {g : Op2}
theorem rp_at {H : Hp} {xs : List V} {ds : List D} {k : Int} {d : D} (r : RpA K cl H xs ds) (h : atI ds k = some d) : ∃ v, atI xs k = some v ∧ Rp K cl H v d := by
  unfold atI at h ⊢
  rw [r.len]
  cases q : ixN ds.length k with
  | none => rw [q] at h; cases h
  | some j =>
    rw [q] at h
    obtain ⟨v, h1, h2⟩ := r.get j h
    exact ⟨v, h1, h2⟩
theorem d_ixL (ha : PE X a (TEof X.K cl fa)) (hb : PE X b (TEof X.K cl fb)) (hp : PlainIx b := by exact fun _ _ => rfl) : PE X (.Subscript a b pos) (TEof X.K cl (dBin ixL fa fb)) := by
  refine iE (pe_ix ix_list ha hb hp) (bin_read fun O H x y d e Q al rx ry h => ?_)
  unfold ixL at h
  split at h
  · next ds k =>
    cases ry
    cases rx with
    | lst s r =>
      split at h
      · next d e =>
        obtain ⟨v, h1, h2⟩ := rp_at r e
        exact ⟨_, _, _, v, rfl, rfl, hide_le.seq s, h1, h.now h2⟩
      · exact h.elim
  · exact h.elim
theorem d_ixT (ha : PE X a (TEof X.K cl fa)) (hb : PE X b (TEof X.K cl fb)) (hp : PlainIx b := by exact fun _ _ => rfl) : PE X (.Subscript a b pos) (TEof X.K cl (dBin ixT fa fb)) := by
  refine iE (pe_ix ix_tup ha hb hp) (bin_read fun O H x y d e Q al rx ry h => ?_)
  unfold ixT at h
  split at h
  · next ds k =>
    cases ry
    cases rx with
    | tup s r =>
      split at h
      · next d e =>
        obtain ⟨v, h1, h2⟩ := rp_at r e
        exact ⟨_, _, _, v, rfl, rfl, same_sqT hide_le s, h1, h.now h2⟩
      · exact h.elim
  · exact h.elim
theorem iO {t t' : TO} {e : Option Expr} (h : PO X e t) (k : ∀ σ H Q, t' σ H Q → t σ H Q) : PO X e t' := ⟨fun pins s σ H Q I q => h.run pins s σ H Q I (k σ H Q q)⟩
theorem o_none : PO X none (TOof K cl partNo) := by
  refine iO po_none ?_
  rintro σ H Q ⟨w, L, sd, W, h⟩
  exact h H .refl W
theorem o_some (he : PE X e (TEof K cl f)) : PO X (some e) (TOof K cl (partAt f)) := by
  refine iO (po_some he) ?_
  rintro σ H Q ⟨w, L, sd, W, h⟩
  refine ⟨w, L, sd, W, PostE.bd (P := PostO K cl w L σ H Q) ⟨fun h => h, fun _ h => h⟩ h fun r s1 h v H1 st1 W1 rr => ?_⟩
  cases r with
  | int i => cases rr; exact ⟨i, rfl, h H1 st1 W1⟩
  | _ => exact h.elim
theorem cut_rp {H : Hp} {xs : List V} {ds : List D} (r : RpA K cl H xs ds) (l u : Option Int) : RpA K cl H (cutV xs l u) (cutD ds l u) := by
  unfold cutV cutD
  rw [r.len]
  exact (r.drop _).take _
theorem PostO.bd {w : Wf} {L : List Addr} {σ : L2.St} {H : Hp} {m : M (Option Int × S)} {β : Type} {P : M β → Prop} (hb : Bot P) {f : Option Int × S → M β} (h : P (bd m f)) {C : Option Int → Hp → Prop}
    (k : ∀ r s1, P (f (r, s1)) → ∀ H1, Step w L H L H1 → Wl K cl w L s1 σ H1 → C r H1) : PostO K cl w L σ H C m := by
  match m, h with
  | none, h => exact (hb.no h).elim
  | some (.ex e), h => exact (hb.ex e h).elim
  | some (.ok (r, s1)), h => exact fun H1 a b => k r s1 h H1 a b
/-- xs[lo:hi], a new list -/
theorem f_cutL (ha : PE X a (TEof X.K cl fa)) (hl : PO X lo (TOof X.K cl fl)) (hh : PO X hi (TOof X.K cl fh)) : PE X (.Subscript a (.Slice lo hi none p2) pos) (TFof X.K cl (dCutL fa fl fh)) := by
  refine iE (pe_slice sl_list ha hl hh) ?_
  rintro σ H Q ⟨w, L, sd, W, h⟩
  refine ⟨w, L, sd, W, PostE.bd botF h fun r s1 h v H1 st1 W1 rr => ?_⟩
  cases rr with
  | @lst ad xs ds s r =>
    dsimp only at h
    refine ⟨w, L, s1, W1, PostO.bd botF h fun q s2 h H2 st2 W2 => ?_⟩
    refine ⟨w, L, s2, W2, PostO.bd botF h fun u s3 h H3 st3 W3 => ?_⟩
    have sm := (st2.trans st3).sn W1
    refine ⟨_, _, rfl, hide_le.seq (sm.seq s), fun p np => ?_⟩
    have sm2 := same_upd (o := .lst (cutV xs q u)) np
    have st4 : Step w L H3 (p :: L) _ := ⟨(Step.of_same (w := w) (L := L) sm2).keep, (Step.of_same (w := w) (L := L) sm2).alv, fun a ha => by
      (rcases List.mem_cons.mp ha with rfl | ha)
      · exact .inr np
      · exact .inl ha⟩
    exact h p _ (((st1.trans st2).trans st3).trans st4) (W3.new_ne np) (W3.ext sm2) (W3.made sm2 np (by rw [upd_same]; simp)) ⟨_, upd_same, ((cut_rp r q u).mono sm).mono (st4.seen W.sub)⟩
  | _ => exact h.elim
theorem d_cutT (ha : PE X a (TEof X.K cl fa)) (hl : PO X lo (TOof X.K cl fl)) (hh : PO X hi (TOof X.K cl fh)) : PE X (.Subscript a (.Slice lo hi none p2) pos) (TEof X.K cl (dCutT fa fl fh)) := by
  refine iE (pe_slice sl_tupA ha hl hh) ?_
  rintro σ H Q ⟨w, L, sd, W, h⟩
  refine ⟨w, L, sd, W, PostE.bd botE h fun r s1 h v H1 st1 W1 rr => ?_⟩
  cases rr with
  | @tup ad xs ds s r =>
    dsimp only at h
    refine ⟨w, L, s1, W1, PostO.bd botE h fun q s2 h H2 st2 W2 => ?_⟩
    refine ⟨w, L, s2, W2, PostO.bd botE h fun u s3 h H3 st3 W3 => ?_⟩
    have sm := (st2.trans st3).sn W1
    have st13 := (st1.trans st2).trans st3
    have s3' := same_sqT sm s
    have r3 := r.mono sm
    refine ⟨_, _, rfl, same_sqT hide_le s3', fun hw => ?_, fun _ p np => ?_⟩
    · have e : cutD ds q u = ds := by
        unfold cutD
        rw [← r.len, hw.1, hw.2, List.drop_zero, Nat.sub_zero]
        exact List.take_of_length_le (by rw [r.len]; exact Nat.le_refl _)
      refine h _ H3 st13 W3 ?_
      rw [e]
      exact .tup s3' r3
    · have sm2 := same_upd (o := .tup (cutV xs q u)) np
      have st4 : Step w L H3 L _ := .of_same sm2
      exact h _ _ (st13.trans st4) (W3.ext sm2) (.tup (.inl (.inl (hide_new W3.alive np))) ((cut_rp r3 q u).mono (st4.sn W3)))
  | _ => exact h.elim
/-- xs[::-1], a new list -/
theorem f_rev {k : Nat} {q1 q2 q3 : Pos} (ha : PE X a (TEof X.K cl fa)) : PE X (.Subscript a (.Slice none none (some (.UnaryOp .USub (.Constant (.int 1) k q1) q2)) q3) pos) (TFof X.K cl (dRev fa)) := by
  refine iE (pe_revL ha) ?_
  rintro σ H Q ⟨w, L, sd, W, h⟩
  refine ⟨w, L, sd, W, PostE.bd botF h fun r s1 h v H1 st1 W1 rr => ?_⟩
  cases rr with
  | @lst ad xs ds s r =>
    refine ⟨_, _, rfl, hide_le.seq s, fun p np => ?_⟩
    have sm2 := same_upd (o := .lst xs.reverse) np
    have st4 : Step w L H1 (p :: L) _ := ⟨(Step.of_same (w := w) (L := L) sm2).keep, (Step.of_same (w := w) (L := L) sm2).alv, fun a ha => by
      (rcases List.mem_cons.mp ha with rfl | ha)
      · exact .inr np
      · exact .inl ha⟩
    exact h p _ (st1.trans st4) (W1.new_ne np) (W1.ext sm2) (W1.made sm2 np (by rw [upd_same]; simp)) ⟨_, upd_same, r.rev.mono (st4.seen W1.sub)⟩
  | _ => exact h.elim
/-- + of any two lists -/
def rCatL (K : PySem.W.Frag) : R2 := fun x y H Q => ∃ l b xs zs, x = .ref l ∧ y = .ref b ∧ SqL K H l xs ∧ SqL K H b zs ∧ xs.length + zs.length ≤ sizeLine ∧ ∀ p, H p = none → Q (.ref p) (upd H p (.lst (xs ++ zs)))
theorem o_catL : OpR X (binaryOp .Add) (rCatL X.K) := by
  (intro pins s σ H x y v u Q I rx ry h)
  obtain ⟨l, b, xs, zs, rfl, rfl, h1, h2, hz, q⟩ := h
  cases rx
  cases ry
  obtain ⟨its, r1, ⟨⟨c1, dd1, data1, sl1⟩, n1, e1, hc1, hd1, ht1⟩, z1⟩ := I.list h1
  obtain ⟨its2, r2, ⟨⟨c2, dd2, data2, sl2⟩, n2, e2, hc2, hd2, ht2⟩, z2⟩ := I.list h2
  simp only at hc1 hd1 ht1 hc2 hd2 ht2
  subst hc1 hd1 ht1 hc2 hd2 ht2
  have l1 := r1.length
  have l2 := r2.length
  refine concat_meets ⟨_, e1, rfl⟩ ⟨_, e2, rfl⟩ noFill_list_add seq_list_add PySem.F.slot_list_add PySem.F.entry_list_add
    (PySem.F.args_list_add_2 _ _) (list_addW l b its.toArray its2.toArray n1 n2 none none sl1 sl2 (by rw [List.size_toArray, List.size_toArray]; omega)) ⟨e1, e2, ?_⟩
  (have ea : its.toArray ++ its2.toArray = (its ++ its2).toArray := by simp)
  rw [ea]
  refine ⟨.ref _, _, I.laid (t' := s.toks) (o := .lst (xs ++ zs)) (fun _ _ z => Heap.get?_push_of_some _ z) (Nat.le_refl _) ⟨by rw [List.length_append]; exact hz, _, 0, r1.append r2, Heap.get?_push_size _ rfl⟩, rfl, q _ (I.hok.fresh (Nat.le_refl _))⟩
theorem k_catL : OpK X X.K cl (binaryOp .Add) catL := by
  refine ⟨_, o_catL, fun O H x y d e Q al rx ry h => ?_⟩
  unfold catL at h
  split at h
  · next xs ys =>
    split at h
    · next c =>
      cases rx with
      | lst s r =>
        cases ry with
        | lst s2 r2 => exact ⟨_, _, _, _, rfl, rfl, hide_le.seq s, hide_le.seq s2, by rw [r.len, r2.len]; exact c, fun p np => h.new np (.lst (.inl (.inl (hide_new al np))) ((r.mono (hide_upd np)).append (r2.mono (hide_upd np))))⟩
    · exact h.elim
  · exact h.elim
theorem k_catT : OpK X X.K cl (binaryOp .Add) catT := by
  refine ⟨_, op_catA, fun O H x y d e Q al rx ry h => ?_⟩
  unfold catT at h
  split at h
  · next xs ys =>
    split at h
    · next c =>
      cases rx with
      | @tup a1 us _ s r =>
        cases ry with
        | @tup a2 ws _ s2 r2 =>
          refine ⟨_, _, _, _, rfl, rfl, same_sqT hide_le s, same_sqT hide_le s2, by rw [r.len, r2.len]; exact c, fun z => ?_, fun _ z => ?_, fun _ _ p np => h.new np (.tup (.inl (.inl (hide_new al np))) ((r.mono (hide_upd np)).append (r2.mono (hide_upd np))))⟩
          · subst z
            cases r
            exact h.now (.tup s2 r2)
          · subst z
            cases r2
            rw [List.append_nil] at h
            exact h.now (.tup s r)
    · exact h.elim
  · exact h.elim
/-! ### a list times an int, the list just made -/
def dRep (fa fb : S → M (D × S)) : S → M (D × S) := fun s => bd (fa s) fun p => bd (fb p.2) fun q => match p.1, q.1 with
  | .lst xs, .int k => if -(2 ^ 63) ≤ k ∧ k < 2 ^ 63 ∧ xs.length * k.toNat ≤ sizeLine then ok (.lst (List.replicate k.toNat xs).flatten, q.2) else none
  | _, _ => none
theorem rp_rep {H : Hp} {xs : List V} {ds : List D} (r : RpA K cl H xs ds) : ∀ n : Nat, RpA K cl H (List.replicate n xs).flatten (List.replicate n ds).flatten
  | 0 => .nil
  | n + 1 => by
    (rw [List.replicate_succ, List.replicate_succ, List.flatten_cons, List.flatten_cons])
    exact r.append (rp_rep r n)
end
end Dt
namespace Dt
open L2 PySem PySem.Spec PyProof.Rows
/-! ### isinstance(e, T), T a built-in type -/
def tyD : D → Option String
  | .non => some "NoneType"
  | .bl _ => some "bool"
  | .int _ => some "int"
  | .str _ => some "str"
  | .lst _ => some "list"
  | .tup _ => some "tuple"
  | _ => none
def isD (T : String) (d : D) : M D := match tyD d with
  | some a => match kitB a T with
    | some b => ok (.bl b)
    | none => none
  | none => none
def dIsi (T : String) (f : S → M (D × S)) : S → M (D × S) := fun s => bd (f s) fun p => bd (isD T p.1) fun r => ok (r, p.2)
section
variable {X : Cx} {cl : Cl} {pos p0 p2 : Pos} {a b e : Expr} {f fa fb : S → M (D × S)}
theorem ty_of {K : PySem.W.Frag} {O : List Addr} {H : Hp} {v : V} {d : D} {n : String} (r : Rp K cl (hide O H) v d) (h : tyD d = some n) : TyX K H v (.type n) := by
  cases r with
  | non => cases h; exact .base .non
  | bl x => cases h; exact .base (.bl x)
  | int i => cases h; exact .base (.int i)
  | str x => cases h; exact .base (.str x)
  | lst q _ =>
    cases h
    rcases hide_le.seq q with (z | ⟨o, z⟩) | ⟨o, its, n, z, c, _⟩
    · exact .base (.lst z)
    · exact .base (.frz z)
    · exact .kList z c
  | tup q _ =>
    cases h
    rcases same_sqT hide_le q with (z | ⟨o, z⟩) | ⟨o, its, n, z, c, _⟩
    · exact .base (.tup z)
    · exact .fTuple z
    · exact .kTuple z c
  | obj => cases h
  | dic => cases h
theorem d_isi {x : Str} {T : String} (he : PE X e (TEof X.K cl f)) (hm : X.mg "isinstance" = none) (hT : X.mg x = none) (hv : bootBuiltins x = some (.type T)) (hb : bootBuiltins "isinstance" = some (.builtin "isinstance")) (hg : Gl X "isinstance" := by rfl) (hx : Gl X x := by rfl)
    (hn : x ≠ "__name__" := by decide) (hd : (x == ("__debug__" : Str)) = false := by decide) (h1 : starEach [e, .Name x p2] X.env = (false, eval e X.env) :: starEach [.Name x p2] X.env := by rfl) (h2 : starEach [.Name x p2] X.env = (false, eval (.Name x p2) X.env) :: starEach [] X.env := by rfl)
    (hpl : (backTo pos (starEach [.Name x p2] X.env)).any (·.1) = false := by rfl) : PE X (.Call (.Name "isinstance" p0) [e, .Name x p2] [] pos) (TEof X.K cl (dIsi T f)) := by
  refine iE (pe_callB call_isi hg hm hb (pa_cons he (pa_cons (pe_bltn hx hT hv (v := .ty T) rfl hn hd) pa_nil h2) h1) (by decide) (by decide) h1 hpl) ?_
  rintro σ H Q ⟨w, L, sd, W, h⟩
  refine ⟨w, L, sd, W, PostE.bd botE h fun r s1 h v H1 st1 W1 rr => ?_⟩
  have h' := h.fin st1 W1
  unfold isD at h'
  split at h'
  · next n e1 =>
    split at h'
    · next c e2 => exact ⟨v, .ty T, _, _, c, rfl, .ty T, ty_of rr e1, kit_ty e2, h'.now (.bl c)⟩
    · exact h'.elim
  · exact h'.elim
/-! ### [..] * k -/
theorem f_rep (ha : PE X a (TFof X.K cl fa)) (hb : PE X b (TEof X.K cl fb)) : PE X (.BinOp a .Mult b pos) (TFof X.K cl (dRep fa fb)) := by
  refine iE (pe_op op_rep ha hb) ?_
  rintro σ H Q ⟨w, L, sd, W, h⟩
  refine ⟨w, L, sd, W, PostF.bd botF h fun r s1 h p H1 st1 np W1 W1' o1 => ?_⟩
  refine ⟨w, L, s1, W1, PostE.bd botF h fun q s2 h v H2 st2 W2 rq => ?_⟩
  dsimp only at h
  cases r with
  | lst xs =>
    cases q with
    | int k =>
      dsimp only at h
      split at h
      · next c =>
        cases rq
        obtain ⟨vs, e1, r1⟩ := o1
        have np1 : p ∉ L := fun z => np (List.mem_append_left _ z)
        have np2 : p ∉ w.I := fun z => np (List.mem_append_right _ (W1.sub p z))
        have e2 := st2.keep p _ np1 np2 e1
        have r2 : RpA X.K cl (hide (L ++ w.O0) H2) vs xs := (r1.mono (hide_sub fun a ha => List.mem_cons_of_mem _ ha)).mono (st2.sn W2)
        refine ⟨p, k, vs, rfl, rfl, e2, c.1, c.2.1, by rw [r1.len]; exact c.2.2, fun z nz => ?_⟩
        have sm := same_upd (o := .lst (List.replicate k.toNat vs).flatten) nz
        have st3 : Step w L H2 (z :: L) _ := ⟨(Step.of_same (w := w) (L := L) sm).keep, (Step.of_same (w := w) (L := L) sm).alv, fun a ha => by
          (rcases List.mem_cons.mp ha with rfl | ha)
          · exact .inr nz
          · exact .inl ha⟩
        have st0 : Step w L H L H1 := ⟨st1.keep, st1.alv, fun _ h => .inl h⟩
        exact h z _ ((st0.trans st2).trans st3) (W2.new_ne nz) (W2.ext sm) (W2.made sm nz (by rw [upd_same]; simp)) ⟨_, upd_same, (rp_rep r2 _).mono (st3.seen W2.sub)⟩
      · exact h.elim
    | _ => exact h.elim
  | _ => exact h.elim
end
/-! ### keywords of a def without defaults -/
theorem kbN {K : PySem.W.Frag} {x qual : Str} {params : Arguments} {body : List Stmt} {scope : Scope} {f : Addr} {fd : FuncData} {ps : List Str} (F : FunD K x qual params body scope [] [] f fd) (n : Nat) (ks : List Str) (g : {α : Type} → List α → List α → List α)
    (hrel : ∀ {vs zs : List V} {us ws : List Value}, Vals vs us → Vals zs ws → Vals (g vs zs) (g us ws))
    (h : ∀ (kV doc pm : Value) (an : Option Addr) (cdv ct : Value) (us ws : List Value), us.length = n → ws.length = ks.length → bindArgs (PySem.W.fnOf x qual params body scope .none kV doc pm an cdv ct) ⟨us, ks.zip ws⟩ = pure (ps.zip (g us ws))) :
    KBn K fd ps n ks (fun us ws => g us ws) (fun vs zs => g vs zs) := by
  (obtain ⟨oc, od, dV, kV, doc, pm, an, cdv, ct, osl, rfl, lk, hcd, hD, hK⟩ := F.ex)
  (rcases hD with ⟨_, rfl⟩ | ⟨e, _⟩)
  · exact ⟨fun s us ws _ l1 l2 => .of_eq (h kV doc pm an cdv ct us ws l1 l2), fun a b => hrel a b⟩
  · exact absurd rfl e
/-! ### the law's end -/
theorem hide_nil {H : Hp} : hide [] H = H := by
  funext a
  unfold hide
  simp
theorem ints_rp {K : PySem.W.Frag} {cl : Cl} {H : Hp} : ∀ ns : List Int, RpA K cl H (ns.map V.int) (ns.map D.int)
  | [] => .nil
  | n :: ns => .cons (.int n) (ints_rp ns)
theorem sp_law {K : PySem.W.Frag} {cl : Cl} {g : FnD} {H : Hp} {a : Addr} {ns : List Int} {E : XK} (hs : SqL K H a (ns.map V.int)) (h : g [.lst (ns.map D.int)] = ok (.bl true)) : spP K cl 1 g [.ref a] H (fun v _ => v = .bl true) E := by
  refine ⟨rfl, [], [.lst (ns.map D.int)], fun a h => by simp at h, by rw [hide_nil]; exact .cons (.lst hs (ints_rp ns)) .nil, ?_⟩
  rw [h]
  intro v H' _ r
  cases r
  rfl
/-- a def's promise as the caller of the law asks it -/
theorem walk_G {l : PySem.W.OpenLaw} {n k : Nat} {q : Program} {loose : List Str} {XP : (Str → Option Value) → Heap → Prop} {YP : World → Heap → Prop} {d : DefRec} {x : Str}
    (hn : l.most = some n) (hn2
          : n ≤ sizeLine) (hdf : d.params.defaults = []) (hr : Room k callerA)
    (F : ∀ (w : World) (mg : Str
          → Option Value) (fa : Addr) (h : Heap), YP w h → h.Ns mainGlobals mg → mg d.name = some (.ref fa) →
      ∃ (K : PySem.W.Frag) (fd : FuncData) (cl : Cl) (g : FnD), K.In h ∧ (∀ (s : Shared) (u : Value), BindsTo s fd ⟨[u], []⟩ [(x, u)]) ∧ (∀ ns : List Int, ns.length ≤ n → g [.lst (ns.map D.int)] = ok (.bl true)) ∧
        ∀ base : Heap, K.In base → base.Ns mainGlobals mg → FnG l.prog w K mg base CX0 k fa fd [x] (spP K cl 1 g)) :
    PySem.W.WalkO q loose XP YP l.row.toRowW d []
          (fun f vs => PySem.call f vs) := by
  (refine Att.attach_call hn hdf fun w s₀ s₁ mg mb fa o pm cd doc a vs ns G Y ho hd hcd hmg hobj hints hlen hg => ?_)
  obtain ⟨K, fd, cl, g, KX, hb, hlaw, hF⟩ := F w mg fa _ Y G.T.g hmg
  have hl : ns.length ≤ sizeLine := Nat.le_trans hlen hn2
  have rv := vals_ints hints
  have lv := hints.length
  have main : ∀ H : Hp, Only H → SqL K H a (ns.map V.int) → HOk l.prog w H s₁.heap → (∀ b, H b ≠ none → b = a) → (H a ≠ none → K.lookup a = none) →
      codeAny (model l.prog w) callerA (.call (.ref fa) ⟨[.ref a], []⟩) (fun r s' => r = .ok (.ret (.bool true)) ∧ OldK s₁.heap s'.heap ∧ s'.os = s₁.os ∧ AllBare s'.gens) s₁ := by
    intro H hO hS hok hA hK
    have isA : ∀ {b : Addr} {u : HO}, H b = some u → b = a := fun {b u} e => hA b (by rw [e]; simp)
    have noD : ∀ {b : Addr} {ob : Obj} {es : Array DictEntry} {ep : Nat}, s₁.heap.get? b = some ob → ob.data = .dict es ep → H b = none := fun {b ob es ep} e1 e2 => by
      cases q : H b with
      | none => rfl
      | some u =>
        rw [isA q, hobj] at e1
        cases e1
        cases (show Data.seq vs.toArray _ = Data.dict es ep from e2)
    have nsB : ∀ {b : Addr} {m : Str → Option Value}, s₁.heap.Ns b m → (hidT s₁.heap H).Ns b m := fun {b m} ⟨ob, es, ep, e1, e2, r⟩ => ⟨ob, es, ep, hidT_get e1 (noD e1 e2), e2, r⟩
    have inB : K.In (hidT s₁.heap H) := fun b ob e => by
      refine hidT_get (KX b ob e) ?_
      cases q : H b with
      | none => rfl
      | some u =>
        have z := isA q
        subst z
        (rw [hK (by rw [q]; simp)] at e)
        cases e
    obtain ⟨mc, n1, n2⟩ := G.T.nolimit
    have env : Env0 l.prog w K mg (hidT s₁.heap H) callerA [] s₁ H := ⟨rfl, ⟨inB, nsB G.T.g, ⟨mb, nsB G.T.b, G.T.builtins⟩, ⟨mc, nsB n1, n2⟩⟩, fun b ob e => of_hidT e, Nat.le_of_eq (hidT_size _ _), trivial, fun b hb => absurd (show b ∈ ([] : List Addr) from hb) (by simp), hok, .of_eq hg⟩
    refine codeAny_mono ((hF _ inB (nsB G.T.g)).go callerA [] s₁ H ⟨[.ref a], []⟩ [.ref a] [.ref a] _ E0 rfl hr env (hb s₁ (.ref a)) (.cons rfl .nil) (sp_law hS (hlaw ns hlen))) fun r s' h => ?_
    match r, h with
    | .error e, h => exact False.elim h
    | .ok .next, h => exact False.elim h
    | .ok .brk, h => exact False.elim h
    | .ok .cont, h => exact False.elim h
    | .ok (.ret u), h =>
      obtain ⟨v, H', os, bare, un, hok', r', z⟩ := h
      cases (show v = .bl true from z)
      cases (show u = Value.bool true from r')
      refine ⟨rfl, OldK.of_keep fun b ob e => ?_, os, bare⟩
      cases q : H b with
      | none => exact un.keep b ob e q (fun z => absurd (show b ∈ ([] : List Addr) from z) (by simp)) (by simp)
      | some u =>
        rcases hO b with z | ⟨o2, xs, z⟩
        · rw [q] at z
          cases z
        · have g1 := (hok b _ z).1
          have g2 := (hok' b _ (un.frzs b o2 _ z)).1
          rw [e] at g1
          cases g1
          exact g2
  cases q : K.lookup a with
  | some ob =>
    have e := KX a ob q
    rw [hobj] at e
    cases e
    exact main (fun _ => none) (fun _ => .inl rfl) (.inr ⟨_, vs.toArray, _, q, rfl, rfl, rfl, by rw [List.size_toArray, lv]; exact hl, by simpa using rv⟩) (fun b u z => nomatch z) (fun b z => absurd rfl z) fun z => absurd rfl z
  | none =>
    have at_ : ∀ {b : Addr} {u : HO}, (if b = a then some (HO.frz { cls := .type "list", data := .seq vs.toArray } (.lst (ns.map V.int))) else none) = some u → b = a ∧ u = HO.frz { cls := .type "list", data := .seq vs.toArray } (.lst (ns.map V.int)) := fun {b u} z => by
      by_cases c : b = a
      · rw [if_pos c] at z
        exact ⟨c, (Option.some.inj z).symm⟩
      · rw [if_neg c] at z
        cases z
    refine main (fun b => if b = a then some (.frz { cls := .type "list", data := .seq vs.toArray } (.lst (ns.map V.int))) else none) (fun b => ?_) (.inl (.inr ⟨{ cls := .type "list", data := .seq vs.toArray }, if_pos rfl⟩)) (fun b u z => ?_) (fun b z => ?_) fun _ => q
    · by_cases c : b = a
      · exact .inr ⟨_, _, if_pos c⟩
      · exact .inl (if_neg c)
    · obtain ⟨rfl, rfl⟩ := at_ z
      exact ⟨hobj, by rw [List.length_map]; exact hl, vs, _, rv, hobj⟩
    · by_cases c : b = a
      · exact c
      · exact absurd (if_neg c) z
end Dt
namespace Dt
open L2 PySem PySem.Spec PyProof.Rows
section
variable {X : Cx} {K : PySem.W.Frag} {cl : Cl}
/-- x = [..] on one line -/
theorem s_ownLc (i : Nat) {y : Str} {py pos spos : Pos} {elt tg iter : Expr} {ifs : List Expr} {scope : Scope} {own : List (Str × Nat)} {fi : S → M (List D × S)} {ts : List Nat} {T : D → S → M S} {ft : S → M (Bool × S)} {fe : S → M (D × S)}
    (hc : X.calm = true) (hN : X.N.Nodup) (hi : PI X tg iter (TIof K cl fi)) (ok : BlkOk X.N X.env.scope scope own)
    (hg : ∀ (s : Shared) (H : Hp) (C : Addr) (cls : List (Str × Addr)) (fp : List Addr), PG (X.blk s H scope (compEnvC scope cls C X.env) fp) tg (TGof K cl ts T))
    (ht : ∀ (s : Shared) (H : Hp) (C : Addr) (cls : List (Str × Addr)) (fp : List Addr), PTs (X.blk s H scope (compEnvC scope cls C X.env) fp) ifs (TTof K cl ft))
    (he : ∀ (s : Shared) (H : Hp) (C : Addr) (cls : List (Str × Addr)) (fp : List Addr), PE (X.blk s H scope (compEnvC scope cls C X.env) fp) elt (TEof K cl fe))
    (hts : ∀ i ∈ ts, i ∈ own.map (·.2)) (hy : X.N[i]? = some y := by rfl) (hyl : X.env.scope.names.lookup y = some .local := by rfl)
    (hsw : swapsWith (.ListComp elt [⟨tg, iter, ifs, 0⟩] scope pos) (some (.Name y py)) spos.line X.env = pure true := by exact sw_true rfl rfl rfl (by decide +kernel)) (hs : ∀ x, foldedSetIterable iter X.env x = pure x := by intro _; rfl) :
    PS X (.Assign [.Name y py] (.ListComp elt [⟨tg, iter, ifs, 0⟩] scope pos) spos) (TSof K cl [i] (sOwn i (dComp fi (own.map (·.2)) T ft fe))) := by
  refine iS (ps_setLc hc hN hy hyl hsw hi ok hg ht he hs) ?_
  rintro E σ H ⟨w, L, sd, W, h⟩
  refine comp_read hts σ H _ ⟨w, L, sd, W, PostF.bd botS h fun r s1 h p H1 st1 np W1 W2 ho => ?_⟩
  exact h (p :: L) _ H1 st1 (W1.setOwn i np W2 ho) agree_set
theorem s_setLc (i : Nat) {y : Str} {py pos spos : Pos} {elt tg iter : Expr} {ifs : List Expr} {scope : Scope} {own : List (Str × Nat)} {fi : S → M (List D × S)} {ts : List Nat} {T : D → S → M S} {ft : S → M (Bool × S)} {fe : S → M (D × S)}
    (hc : X.calm = true) (hN : X.N.Nodup) (hi : PI X tg iter (TIof K cl fi)) (ok : BlkOk X.N X.env.scope scope own)
    (hg : ∀ (s : Shared) (H : Hp) (C : Addr) (cls : List (Str × Addr)) (fp : List Addr), PG (X.blk s H scope (compEnvC scope cls C X.env) fp) tg (TGof K cl ts T))
    (ht : ∀ (s : Shared) (H : Hp) (C : Addr) (cls : List (Str × Addr)) (fp : List Addr), PTs (X.blk s H scope (compEnvC scope cls C X.env) fp) ifs (TTof K cl ft))
    (he : ∀ (s : Shared) (H : Hp) (C : Addr) (cls : List (Str × Addr)) (fp : List Addr), PE (X.blk s H scope (compEnvC scope cls C X.env) fp) elt (TEof K cl fe))
    (hts : ∀ i ∈ ts, i ∈ own.map (·.2)) (hy : X.N[i]? = some y := by rfl) (hyl : X.env.scope.names.lookup y = some .local := by rfl)
    (hsw : swapsWith (.ListComp elt [⟨tg, iter, ifs, 0⟩] scope pos) (some (.Name y py)) spos.line X.env = pure true := by exact sw_true rfl rfl rfl (by decide +kernel)) (hs : ∀ x, foldedSetIterable iter X.env x = pure x := by intro _; rfl) :
    PS X (.Assign [.Name y py] (.ListComp elt [⟨tg, iter, ifs, 0⟩] scope pos) spos) (TSof K cl [i] (sSet i (dComp fi (own.map (·.2)) T ft fe))) := by
  refine iS (ps_setLc hc hN hy hyl hsw hi ok hg ht he hs) ?_
  rintro E σ H ⟨w, L, sd, W, h⟩
  refine comp_read hts σ H _ ⟨w, L, sd, W, PostF.bd botS h fun r s1 h p H1 st1 np W1 W2 ho => ?_⟩
  have st2 : Step w L H L H1 := ⟨st1.keep, st1.alv, fun _ h => .inl h⟩
  exact h L _ H1 st2 (W1.set (ho.rp np (hide_sub fun a ha => List.mem_cons_of_mem _ ha))) agree_set
theorem u64 {k : Nat} {A : Around} (r : Room k A) : A.units + 64 < cLine := by
  have := r.un
  omega
theorem u65 {k : Nat} {A : Around} (r : Room k A) : A.units + 65 < cLine := by
  have := r.un
  omega
/-- a def that keeps its promise, from its walk -/
theorem okP {P : Program} {w : World} {mg : Str → Option Value} {base : Heap} {k : Nat} {f : Addr} {fd : FuncData} {ps : List Str} {x qual : Str} {params : Arguments} {body : List Stmt} {scope : Scope} {dvs : List V} {kws : List (Str × V)} {N : List Str} {F : S → M Out} {n : Nat} {g : FnD}
    (D0 : FunD K x qual params body scope dvs kws f fd) (sc : FnScope N ps scope) (eg : g = runP N.length F) (en : n = ps.length)
    (h : ∀ (cdv : Value) (A : Around) (outer : List Env) (s : Shared) (H : Hp) (E : XK), A.guards = some [] → Room k (A.deeper (envOfC qual scope s.heap.objs.size f cdv)) →
      ∃ ts, PSs (cxOf CX0 P w K mg base N qual scope f cdv A outer s H E).nox body (TSof K cl ts F)) : FnG P w K mg base CX0 (k + 1) f fd ps (spP K cl n g) := by
  subst eg en
  refine okGD D0 sc (fun vs H Q E z => z.1) fun cdv A outer s H vs Q E hg hr z => ?_
  obtain ⟨ts, hb⟩ := h cdv A outer s H E hg hr
  exact walkP hb z
theorem okF {P : Program} {w : World} {mg : Str → Option Value} {base : Heap} {k : Nat} {f : Addr} {fd : FuncData} {ps : List Str} {x qual : Str} {params : Arguments} {body : List Stmt} {scope : Scope} {dvs : List V} {kws : List (Str × V)} {N : List Str} {F : S → M Out} {n : Nat} {g : FnD}
    (D0 : FunD K x qual params body scope dvs kws f fd) (sc : FnScope N ps scope) (eg : g = runF N.length F) (en : n = ps.length)
    (h : ∀ (cdv : Value) (A : Around) (outer : List Env) (s : Shared) (H : Hp) (E : XK), A.guards = some [] → Room k (A.deeper (envOfC qual scope s.heap.objs.size f cdv)) →
      ∃ ts, PSs (cxOf CX0 P w K mg base N qual scope f cdv A outer s H E).nox body (TSof K cl ts F)) : FnG P w K mg base CX0 (k + 1) f fd ps (spF K cl n g) := by
  subst eg en
  refine okGD D0 sc (fun vs H Q E z => z.1) fun cdv A outer s H vs Q E hg hr z => ?_
  obtain ⟨ts, hb⟩ := h cdv A outer s H E hg hr
  exact walkF hb z
theorem okI {P : Program} {w : World} {mg : Str → Option Value} {base : Heap} {k : Nat} {f : Addr} {fd : FuncData} {ps : List Str} {x qual : Str} {params : Arguments} {body : List Stmt} {scope : Scope} {dvs : List V} {kws : List (Str × V)} {N : List Str} {F : S → M Out} {n : Nat} {g : D → List D → M (D × D)}
    (D0 : FunD K x qual params body scope dvs kws f fd) (sc : FnScope N ps scope) (eg : g = runI N.length F) (en : n = ps.length) (hn : ps.length ≤ N.length)
    (h : ∀ (cdv : Value) (A : Around) (outer : List Env) (s : Shared) (H : Hp) (E : XK), A.guards = some [] → Room k (A.deeper (envOfC qual scope s.heap.objs.size f cdv)) →
      ∃ ts, PSs (cxOf CX0 P w K mg base N qual scope f cdv A outer s H E).nox body (TSof K cl ts F)) : FnG P w K mg base CX0 (k + 1) f fd ps (spI K cl n g) := by
  subst eg en
  refine okGD D0 sc (fun vs H Q E z => z.1) fun cdv A outer s H vs Q E hg hr z => ?_
  obtain ⟨ts, hb⟩ := h cdv A outer s H E hg hr
  exact walkI hn hb z
end
end Dt
namespace Dt
open L2 PySem PySem.Spec PyProof.Rows
/-! ### list(zip(a, b)) of two lists -/
theorem zip_len0 : typeLookup (.type "zip") "__len__" = pure none := by
  (rw [typeLookup_type, builtinLookup_eq_fast])
  kernel_rfl
theorem zip_hint0 : typeLookup (.type "zip") "__length_hint__" = pure none := by
  (rw [typeLookup_type, builtinLookup_eq_fast])
  kernel_rfl
/-- what has been drawn -/
def PairsAt (H1 H : Hp) (xs ys : List V) (k : Nat) (out : List V) : Prop := out.length = k ∧ ∀ j, j < k → ∃ T x y, out[j]? = some (.ref T) ∧ xs[j]? = some x ∧ ys[j]? = some y ∧ H T = some (.tup [x, y]) ∧ H1 T = none
/-- the state of the drawing -/
structure Dz (P : Program) (w : World) (h0 : Heap) (H1 : Hp) (z TI TO i1 i2 l1 l2 S : Addr) (xs ys : List V) (k : Nat) (h : Heap) (H : Hp) (acc : Array Value) (out : List V) : Prop where
  keep : ∀ b o, h0.get? b = some o → h.get? b = some o
  sz : h0.objs.size ≤ h.objs.size
  hok : HOk P w H h
  same : ∀ b o, H1 b = some o → H b = some o
  new : ∀ b, H b ≠ none → H1 b = none → h0.objs.size ≤ b
  ti : IsPair h TI (.ref i1) (.ref i2)
  tot : ∃ o, h.get? TO = some o
  it1 : h.IsListIter i1 l1 k
  it2 : h.IsListIter i2 l2 k
  zs : (IsZip h z TI TO .none ∧ ∃ a b, IsPair h TO a b) ∨ ∃ T f oT, IsZipHeld h z TI TO T f ∧ h.get? T = some oT ∧ T ≠ z ∧ T ≠ i1 ∧ T ≠ i2 ∧ T ≠ S
  lst : ∃ c, h.get? S = some (lstObj acc c)
  rel : Vals out acc.toList
  prs : PairsAt H1 H xs ys k out
  hz : H z = none
  hTO : H TO = none
  h1 : H i1 = none
  h2 : H i2 = none
  hS : H S = none
section
variable {P : Program} {w : World} {h0 : Heap} {H1 : Hp} {z TI TO i1 i2 l1 l2 S : Addr} {xs ys : List V} {k : Nat} {h h' : Heap} {H : Hp} {acc : Array Value} {out : List V}
theorem two_le {x y : V} : [x, y].length ≤ sizeLine := by
  show 2 ≤ 2 ^ 24
  decide
/-- one pair more -/
theorem Dz.more (D : Dz P w h0 H1 z TI TO i1 i2 l1 l2 S xs ys k h H acc out) (Z : ZipApart z TI TO i1 i2 l1 l2) {x y : V} {u v : Value} (ru : RelV x u) (rv : RelV y v) (ex : xs[k]? = some x) (ey : ys[k]? = some y)
    (b0 : ∀ b, b = z ∨ b = TO ∨ b = i1 ∨ b = i2 ∨ b = S → h0.objs.size ≤ b) (nTI : TI ≠ S) (nTO : TO ≠ S) (nz : z ≠ S) (n1 : i1 ≠ S) (n2 : i2 ≠ S)
    (hk : ∀ c o, c ≠ z → c ≠ TO → c ≠ i1 → c ≠ i2 → h.get? c = some o → h'.get? c = some o) (hsz : h'.objs.size = h.objs.size + 1) (a1 : IsZipHeld h' z TI TO h.objs.size false ∨ IsZipHeld h' z TI TO h.objs.size true ∨ ∃ T oT, IsZipHeld h' z TI TO T true ∧ h'.get? T = some oT ∧ T ≠ z ∧ T ≠ i1 ∧ T ≠ i2 ∧ T ≠ S)
    (a3 : h'.IsListIter i1 l1 (k + 1)) (a4 : h'.IsListIter i2 l2 (k + 1)) (a5 : IsPair h' h.objs.size u v) (a6 : ∃ o, h'.get? TO = some o) :
    Dz P w h0 H1 z TI TO i1 i2 l1 l2 S xs ys (k + 1) (h'.update S (Obj.mapSeq (·.push (.ref h.objs.size)))) (upd H h.objs.size (.tup [x, y])) (acc.push (.ref h.objs.size)) (out ++ [.ref h.objs.size]) := by
  obtain ⟨c, hl⟩ := D.lst
  have lt : ∀ {c o}, h.get? c = some o → h.objs.size ≠ c := fun e => Nat.ne_of_gt (Heap.lt_size e)
  have hT : H h.objs.size = none := D.hok.fresh (Nat.le_refl _)
  have TS : h.objs.size ≠ S := lt hl
  have Tz : h.objs.size ≠ z := by
    rcases D.zs with ⟨e, _⟩ | ⟨_, _, _, e, _⟩ <;> exact lt e
  have T1 : h.objs.size ≠ i1 := by
    obtain ⟨o, e, _⟩ := D.it1
    exact lt e
  have T2 : h.objs.size ≠ i2 := by
    obtain ⟨o, e, _⟩ := D.it2
    exact lt e
  have up : ∀ b o, b ≠ S → h'.get? b = some o → (h'.update S (Obj.mapSeq (·.push (.ref h.objs.size)))).get? b = some o := fun b o n e => (Heap.get?_update_other _ _ (Ne.symm n)).trans e
  have big : ∀ {b o}, h0.get? b = some o → b ≠ z ∧ b ≠ TO ∧ b ≠ i1 ∧ b ≠ i2 ∧ b ≠ S := fun {b o} e => by
    have l := Heap.lt_size e
    refine ⟨fun q => ?_, fun q => ?_, fun q => ?_, fun q => ?_, fun q => ?_⟩
    · exact absurd (b0 b (.inl q)) (Nat.not_le.mpr l)
    · exact absurd (b0 b (.inr (.inl q))) (Nat.not_le.mpr l)
    · exact absurd (b0 b (.inr (.inr (.inl q)))) (Nat.not_le.mpr l)
    · exact absurd (b0 b (.inr (.inr (.inr (.inl q))))) (Nat.not_le.mpr l)
    · exact absurd (b0 b (.inr (.inr (.inr (.inr q))))) (Nat.not_le.mpr l)
  have trk : ∀ {b : Addr}, H b ≠ none → b ≠ z ∧ b ≠ TO ∧ b ≠ i1 ∧ b ≠ i2 ∧ b ≠ S := fun {b} n =>
    ⟨fun q => n (q ▸ D.hz), fun q => n (q ▸ D.hTO), fun q => n (q ▸ D.h1), fun q => n (q ▸ D.h2), fun q => n (q ▸ D.hS)⟩
  have stay : ∀ b o, H b ≠ none → h.get? b = some o → (h'.update S (Obj.mapSeq (·.push (.ref h.objs.size)))).get? b = some o := fun b o n e =>
    let ⟨q1, q2, q3, q4, q5⟩ := trk n
    up b o q5 (hk b o q1 q2 q3 q4 e)
  have h0le : h0.objs.size ≤ h.objs.size := D.sz
  refine ⟨fun b o e => ?_, ?_, fun b o e => ?_, fun b o e => ?_, fun b n e => ?_, ?_, ?_, ?_, ?_, ?_, ?_, ?_, ?_, ?_, ?_, ?_, ?_, ?_⟩
  · obtain ⟨q1, q2, q3, q4, q5⟩ := big e
    exact up b o q5 (hk b o q1 q2 q3 q4 (D.keep b o e))
  · rw [Heap.size_update, hsz]
    omega
  · by_cases q : b = h.objs.size
    · subst q
      rw [upd_same] at e
      cases e
      exact ⟨two_le, [u, v], .cons ru (.cons rv .nil), _, up _ _ TS a5, rfl, 0, rfl⟩
    · rw [upd_ne q] at e
      have nb : H b ≠ none := by rw [e]; simp
      refine (D.hok b o e).stay (fun b' u' hb e' => stay b' u' ?_ e') (fun b' e' => by rw [upd_ne (ne_of_none e' hT)]; exact e') fun b' xs' e' => by rw [upd_ne (ne_of_none e' hT)]; exact e'
      rcases hb with hb | hb
      · rw [hb]; exact nb
      · rw [hb]; simp
  · have := D.same b o e
    rw [upd_ne (ne_of_none this hT)]
    exact this
  · by_cases q : b = h.objs.size
    · rw [q]; exact h0le
    · rw [upd_ne q] at n
      exact D.new b n e
  · exact up _ _ nTI (hk _ _ Z.TIz Z.TITO Z.TIi1 Z.TIi2 D.ti)
  · obtain ⟨o, e⟩ := a6
    exact ⟨o, up _ _ nTO e⟩
  · exact a3.at fun o e => up _ _ n1 e
  · exact a4.at fun o e => up _ _ n2 e
  · rcases a1 with a1 | a1 | ⟨T, oT, a1, e, q1, q2, q3, q4⟩
    · exact .inr ⟨_, _, _, up _ _ nz a1, up _ _ TS a5, Tz, T1, T2, TS⟩
    · exact .inr ⟨_, _, _, up _ _ nz a1, up _ _ TS a5, Tz, T1, T2, TS⟩
    · exact .inr ⟨_, _, _, up _ _ nz a1, up _ _ q4 e, q1, q2, q3, q4⟩
  · have e := hk S _ (Ne.symm nz) (Ne.symm nTO) (Ne.symm n1) (Ne.symm n2) hl
    exact ⟨_, Heap.get?_update_self (Obj.mapSeq (·.push (.ref h.objs.size))) e rfl⟩
  · rw [Array.toList_push]
    exact D.rel.append (.cons rfl .nil)
  · obtain ⟨q1, q2⟩ := D.prs
    refine ⟨by rw [List.length_append, q1]; rfl, fun j hj => ?_⟩
    by_cases e : j < k
    · obtain ⟨T, x', y', p1, p2, p3, p4, p5⟩ := q2 j e
      refine ⟨T, x', y', by rw [List.getElem?_append_left (by omega)]; exact p1, p2, p3, by rw [upd_ne (ne_of_none p4 hT)]; exact p4, p5⟩
    · have ej : j = k := by omega
      subst ej
      refine ⟨h.objs.size, x, y, by rw [List.getElem?_append_right (by omega), q1, Nat.sub_self]; rfl, ex, ey, upd_same, ?_⟩
      cases q : H1 h.objs.size with
      | none => rfl
      | some o =>
        have := D.same _ _ q
        rw [hT] at this
        cases this
  · rw [upd_ne (Ne.symm Tz)]; exact D.hz
  · obtain ⟨o, e⟩ := D.tot
    rw [upd_ne (Ne.symm (lt e))]
    exact D.hTO
  · rw [upd_ne (Ne.symm T1)]; exact D.h1
  · rw [upd_ne (Ne.symm T2)]; exact D.h2
  · rw [upd_ne (Ne.symm TS)]; exact D.hS
/-- the heap behind the last pair -/
structure Fz (P : Program) (w : World) (h0 : Heap) (H1 : Hp) (S : Addr) (xs ys : List V) (h : Heap) (H : Hp) (acc : Array Value) (out : List V) : Prop where
  keep : ∀ b o, h0.get? b = some o → h.get? b = some o
  hok : HOk P w H h
  same : ∀ b o, H1 b = some o → H b = some o
  new : ∀ b, H b ≠ none → H1 b = none → h0.objs.size ≤ b
  lst : ∃ c, h.get? S = some (lstObj acc c)
  rel : Vals out acc.toList
  prs : PairsAt H1 H xs ys (min xs.length ys.length) out
  hS : H S = none
theorem Dz.last (D : Dz P w h0 H1 z TI TO i1 i2 l1 l2 S xs ys (min xs.length ys.length) h H acc out) (b0 : ∀ b, b = z ∨ b = TO ∨ b = i1 ∨ b = i2 → h0.objs.size ≤ b) (nTO : TO ≠ S) (nz : z ≠ S) (n1 : i1 ≠ S) (n2 : i2 ≠ S)
    (hk : ∀ c o, c ≠ z → c ≠ TO → c ≠ i1 → c ≠ i2 → h.get? c = some o → h'.get? c = some o) : Fz P w h0 H1 S xs ys h' H acc out := by
  obtain ⟨c, hl⟩ := D.lst
  have stay : ∀ b o, H b ≠ none → h.get? b = some o → h'.get? b = some o := fun b o n e => hk b o (fun q => n (q ▸ D.hz)) (fun q => n (q ▸ D.hTO)) (fun q => n (q ▸ D.h1)) (fun q => n (q ▸ D.h2)) e
  refine ⟨fun b o e => ?_, fun b o e => ?_, D.same, D.new, ⟨c, hk S _ (Ne.symm nz) (Ne.symm nTO) (Ne.symm n1) (Ne.symm n2) hl⟩, D.rel, D.prs, D.hS⟩
  · have l := Heap.lt_size e
    have far : ∀ {d}, h0.objs.size ≤ d → b ≠ d := fun q z => absurd (z ▸ q) (Nat.not_le.mpr l)
    exact hk b o (far (b0 z (.inl rfl))) (far (b0 TO (.inr (.inl rfl)))) (far (b0 i1 (.inr (.inr (.inl rfl))))) (far (b0 i2 (.inr (.inr (.inr rfl))))) (D.keep b o e)
  · have nb : H b ≠ none := by rw [e]; simp
    refine (D.hok b o e).stay (fun b' u' hb e' => stay b' u' ?_ e') (fun _ q => q) fun _ _ q => q
    rcases hb with hb | hb
    · rw [hb]; exact nb
    · rw [hb]; simp
theorem vals_at : ∀ {xs : List V} {us : List Value}, Vals xs us → ∀ {j : Nat} {x : V}, xs[j]? = some x → ∃ u, us[j]? = some u ∧ RelV x u
  | _, _, .nil, j, x, e => by simp at e
  | _, _, .cons r t, 0, x, e => ⟨_, rfl, by cases e; exact r⟩
  | _, _, .cons r t, j + 1, x, e => vals_at t (by simpa using e)
theorem drainZ {A : Around} {s : Shared} {R : Result → Shared → Prop} {us vs : List Value} {res : Value} (hA : A.handled = none) (Z : ZipApart z TI TO i1 i2 l1 l2)
    (b0 : ∀ b, b = z ∨ b = TO ∨ b = i1 ∨ b = i2 ∨ b = S → h0.objs.size ≤ b) (nTI : TI ≠ S) (nTO : TO ≠ S) (nz : z ≠ S) (n1 : i1 ≠ S) (n2 : i2 ≠ S) (q1 : h0.IsList l1 us.toArray) (q2 : h0.IsList l2 vs.toArray) (r1 : Vals xs us) (r2 : Vals ys vs) (hz : xs.length ≤ sizeLine)
    (hend : ∀ h H acc out, Fz P w h0 H1 S xs ys h H acc out → R (.ok (.ret res)) { s with heap := h }) : ∀ (m k : Nat) (h : Heap) (H : Hp) (acc : Array Value) (out : List V), k + m = min xs.length ys.length → Dz P w h0 H1 z TI TO i1 i2 l1 l2 S xs ys k h H acc out →
      codeAny (model P w) A (.builtin "list.extend.loop" ⟨[.ref S, .ref z, res], []⟩) R { s with heap := h } := by
  have len1 := r1.length
  have len2 := r2.length
  have b4 : ∀ b, b = z ∨ b = TO ∨ b = i1 ∨ b = i2 → h0.objs.size ≤ b := fun b q => by
    rcases q with q | q | q | q
    · exact b0 b (.inl q)
    · exact b0 b (.inr (.inl q))
    · exact b0 b (.inr (.inr (.inl q)))
    · exact b0 b (.inr (.inr (.inr (.inl q))))
  intro m
  induction m with
  | zero =>
    intro k h H acc out hk0 D
    have ek : k = min xs.length ys.length := by omega
    subst ek
    have L1 := q1.at fun o e => D.keep _ o e
    have L2 := q2.at fun o e => D.keep _ o e
    have ends : us.toArray[min xs.length ys.length]? = none ∨ vs.toArray[min xs.length ys.length]? = none := by
      rcases Nat.le_total xs.length ys.length with q | q
      · exact .inl (Array.getElem?_eq_none (by rw [List.size_toArray, ← len1]; omega))
      · exact .inr (Array.getElem?_eq_none (by rw [List.size_toArray, ← len2]; omega))
    (refine codeAny_builtin F.entry_extend_loop ?_)
    (rw [Around.under_plainId F.plain_extend_loop _])
    show wpAny _ A.in1 (pyNext (.ref z) >>= _) _ _ { s with heap := h }
    refine wpAny_bind ?_
    rcases D.zs with ⟨hz0, a, b, hTO⟩ | ⟨T, f, oT, hz0, hT, t1, t2, t3, t4⟩
    · exact wpAny_pyNext_zip_end (s := { s with heap := h }) (A := A.in1) hA Z hz0 D.ti hTO D.it1 D.it2 L1 L2 ends fun h' hk => wpAny_pure (hend h' H acc out (D.last b4 nTO nz n1 n2 hk))
    · exact wpAny_pyNext_zip_end_held (s := { s with heap := h }) (A := A.in1) hA Z hz0 hT D.ti D.it1 D.it2 L1 L2 ends fun h' hk => wpAny_pure (hend h' H acc out (D.last b4 nTO nz n1 n2 fun c o c1 _ c2 c3 e => hk c o c1 c2 c3 e))
  | succ m ih =>
    intro k h H acc out hk0 D
    have hx1 : k < xs.length := by omega
    have hy1 : k < ys.length := by omega
    have gx : xs[k]? = some xs[k] := List.getElem?_eq_getElem hx1
    have gy : ys[k]? = some ys[k] := List.getElem?_eq_getElem hy1
    obtain ⟨u, eu, ru⟩ := vals_at r1 gx
    obtain ⟨v, ev, rv⟩ := vals_at r2 gy
    have eu2 : us.toArray[k]? = some u := by simpa using eu
    have ev2 : vs.toArray[k]? = some v := by simpa using ev
    have L1 := q1.at fun o e => D.keep _ o e
    have L2 := q2.at fun o e => D.keep _ o e
    have asz : acc.size < sizeLine := by
      have q := D.prs.1
      have q' : out.length = acc.size := by simpa using D.rel.length
      omega
    have push : ∀ h', (∀ c o, c ≠ z → c ≠ TO → c ≠ i1 → c ≠ i2 → h.get? c = some o → h'.get? c = some o) →
        Dz P w h0 H1 z TI TO i1 i2 l1 l2 S xs ys (k + 1) (h'.update S (Obj.mapSeq (·.push (.ref h.objs.size)))) (upd H h.objs.size (.tup [xs[k], ys[k]])) (acc.push (.ref h.objs.size)) (out ++ [.ref h.objs.size]) →
        wpAny (model P w) A.in1 (do Builtin.List.listUpdate (.ref S) (·.push (.ref h.objs.size)); again (.builtin "list.extend.loop" ⟨[.ref S, .ref z, res], []⟩))
          (fun fin s' => match fin with
            | .done f => R (.ok f) s'
            | .again c' => c'.quiet = true ∧ codeAny (model P w) A c' R s') (fun e s' => R (.error e) s') { s with heap := h' } := fun h' hk D' => by
      obtain ⟨c, hl⟩ := D.lst
      have e := hk S _ (Ne.symm nz) (Ne.symm nTO) (Ne.symm n1) (Ne.symm n2) hl
      show wpAny _ _ (updateSeq S (·.push (.ref h.objs.size)) >>= _) _ _ _
      refine wpAny_bind ?_
      exact wpAny_updateSeq e rfl (wpAny_pure ⟨plainId_quiet F.plain_extend_loop _, ih (k + 1) _ _ _ _ (by omega) D'⟩) (Nat.le_of_lt asz) (by show (acc.push _).size ≤ sizeLine + 1; rw [Array.size_push]; omega)
    (refine codeAny_builtin F.entry_extend_loop ?_)
    (rw [Around.under_plainId F.plain_extend_loop _])
    show wpAny _ A.in1 (pyNext (.ref z) >>= _) _ _ { s with heap := h }
    refine wpAny_bind ?_
    rcases D.zs with ⟨hz0, a, b, hTO⟩ | ⟨T, f, oT, hz0, hT, t1, t2, t3, t4⟩
    · refine wpAny_pyNext_zip_item (s := { s with heap := h }) (A := A.in1) Z hz0 D.ti hTO D.it1 D.it2 L1 L2 eu2 ev2 fun h' a1 a2 a3 a4 a5 a6 hk => ?_
      exact push h' hk (D.more Z ru rv gx gy b0 nTI nTO nz n1 n2 hk a6 (.inl a1) a3 a4 a5 ⟨_, a2⟩)
    · refine wpAny_pyNext_zip_item_held (s := { s with heap := h }) (A := A.in1) Z hz0 hT D.ti D.it1 D.it2 L1 L2 eu2 ev2 fun h' a1 a3 a4 a5 a6 hk => ?_
      have hk' : ∀ c o, c ≠ z → c ≠ TO → c ≠ i1 → c ≠ i2 → h.get? c = some o → h'.get? c = some o := fun c o c1 _ c2 c3 e => hk c o c1 c2 c3 e
      obtain ⟨oo, eo⟩ := D.tot
      exact push h' hk' (D.more Z ru rv gx gy b0 nTI nTO nz n1 n2 hk' a6 (.inr (.inr ⟨T, oT, a1, hk T oT t1 t2 t3 hT, t1, t2, t3, t4⟩)) a3 a4 a5 ⟨oo, hk TO oo Z.TOz Z.TOi1 Z.TOi2 eo⟩)
end
/-- list(z), z a zip that was just made -/
theorem call_listZ {P : Program} {w : World} {A : Around} {s : Shared} {H1 : Hp} {l1 l2 : Addr} {xs ys : List V} {us vs : List Value} {h' : Heap} {Q : Value → Shared → Prop} {E : Value → Shared → Prop} (hA : A.handled = none) (hok : HOk P w H1 s.heap)
    (q1 : s.heap.IsList l1 us.toArray) (q2 : s.heap.IsList l2 vs.toArray) (r1 : Vals xs us) (r2 : Vals ys vs) (hlen : xs.length ≤ sizeLine) (lt1 : l1 < s.heap.objs.size) (lt2 : l2 < s.heap.objs.size)
    (zz : IsZip h' (s.heap.objs.size + 4) (s.heap.objs.size + 2) (s.heap.objs.size + 3) .none) (zTI : IsPair h' (s.heap.objs.size + 2) (.ref s.heap.objs.size) (.ref (s.heap.objs.size + 1))) (zTO : IsPair h' (s.heap.objs.size + 3) .none .none)
    (z1 : h'.IsListIter s.heap.objs.size l1 0) (z2 : h'.IsListIter (s.heap.objs.size + 1) l2 0) (zs : h'.objs.size = s.heap.objs.size + 5) (zk : ∀ c o, s.heap.get? c = some o → h'.get? c = some o)
    (hQ : ∀ h H acc out, Fz P w s.heap H1 h'.objs.size xs ys h H acc out → Q (.ref h'.objs.size) { s with heap := h }) : wpAny (model P w) A (call (.type "list") [.ref (s.heap.objs.size + 4)]) Q E { s with heap := h' } := by
  refine callType_codes (Q₁ := fun obj st => obj = .ref h'.objs.size ∧ st = { s with heap := h'.push { cls := .type "list", data := .seq #[] } }) F.called_list (F.typeCall_list_1 _) F.entry_list_init (code_list_new _ ⟨rfl, rfl⟩) fun obj st hst => ?_
  obtain ⟨rfl, rfl⟩ := hst
  have e0 : (h'.push { cls := .type "list", data := .seq #[] }).get? h'.objs.size = some { cls := .type "list", data := .seq #[] } := Heap.get?_push_size _ rfl
  refine ⟨⟨_, e0, rfl⟩, F.args_list_init_2 _ _, ?_⟩
  show wpAny _ A.in1.in1 (do let old ← Builtin.List.listItems (.ref h'.objs.size); Builtin.List.listUpdate (.ref h'.objs.size) (fun _ => #[]); letGo old.toList.reverse; Builtin.List.listExtendWith (.ref h'.objs.size) (.ref (s.heap.objs.size + 4)) .none) _ _ _
  refine wpAny_bind ?_
  unfold Builtin.List.listItems
  refine wpAny_bind (wpAny_seqItems e0 rfl (wpAny_pure ?_))
  show wpAny _ A.in1.in1 (updateSeq h'.objs.size (fun _ => #[]) >>= fun _ => letGo (#[] : Array Value).toList.reverse >>= fun _ => Builtin.List.listExtendWith (.ref h'.objs.size) (.ref (s.heap.objs.size + 4)) .none) _ _ _
  refine wpAny_bind (wpAny_updateSeq e0 rfl ?_)
  have e1 := Heap.get?_update_self (Obj.mapSeq (fun _ => (#[] : Array Value))) e0 rfl
  (refine wpAny_bind (wpAny_letGo ?_))
  (unfold Builtin.List.listExtendWith)
  have nS : ∀ {c o}, h'.get? c = some o → c ≠ h'.objs.size := fun e => Nat.ne_of_lt (Heap.lt_size e)
  have kU : ∀ (g : Heap) (f : Obj → Obj), (∀ c o, h'.get? c = some o → g.get? c = some o) → ∀ c o, h'.get? c = some o → (g.update h'.objs.size f).get? c = some o := fun g f q c o e => (Heap.get?_update_other _ _ (Ne.symm (nS e))).trans (q c o e)
  have k0 : ∀ c o, h'.get? c = some o → (h'.push { cls := .type "list", data := .seq #[] }).get? c = some o := fun c o e => Heap.get?_push_of_some _ e
  have k1 := kU _ (Obj.mapSeq (fun _ => (#[] : Array Value))) k0
  have ty : ∀ {g : Heap}, (∀ c o, h'.get? c = some o → g.get? c = some o) → ({ s with heap := g } : Shared).TypeIs (.ref (s.heap.objs.size + 4)) "zip" := fun {g} q => ⟨_, q _ _ zz, rfl⟩
  refine wpAny_bind (wpAny_typeOf (ty k1) ?_)
  have ne : ∀ i : Nat, i < 5 → ¬ (s.heap.objs.size + i = h'.objs.size) := fun i hi q => by
    rw [zs] at q
    omega
  have b1 : Builtin.List.listSameRef (.ref h'.objs.size) (.ref (s.heap.objs.size + 4)) = false := by
    exact beq_false_of_ne fun q => ne 4 (by decide) q.symm
  have b2 : (Value.type "zip" == Value.type "list") = false := by decide
  have b3 : (Value.type "zip" == Value.type "tuple") = false := by decide
  simp only [b1, b2, b3, Bool.or_false, Bool.false_eq_true, if_false]
  refine wpAny_bind (wpAny_pyIter_zip (s := { s with heap := _ }) (k1 _ _ zz) ?_)
  (refine wpAny_bind (wpAny_holding ?_))
  (unfold Builtin.List.listLengthHint)
  refine wpAny_bind (wpAny_specialOf (ty k1) zip_len0 ?_)
  show wpAny _ A.in1.in1 (specialOf (Value.ref (s.heap.objs.size + 4)) (Str.ofString "__length_hint__") >>= _) _ _ _
  refine wpAny_bind (wpAny_specialOf (ty k1) zip_hint0 ?_)
  refine wpAny_pure ?_
  show wpAny _ A.in1.in1 (rule "list.extend.makes-room" >>= fun _ => Builtin.List.listTouch (.ref h'.objs.size) >>= fun _ => again (.builtin "list.extend.loop" ⟨[.ref h'.objs.size, .ref (s.heap.objs.size + 4), .none], []⟩)) _ _ _
  (refine wpAny_bind (wpAny_rule ?_))
  refine wpAny_bind ?_
  show wpAny _ A.in1.in1 (updateSeq h'.objs.size (·.push .none) >>= fun _ => updateSeq h'.objs.size (·.pop)) _ _ _
  refine wpAny_bind (wpAny_updateSeq e1 rfl ?_)
  have e2 := Heap.get?_update_self (Obj.mapSeq (·.push Value.none)) e1 rfl
  refine wpAny_updateSeq (hz := by seq_fits) e2 rfl ?_
  have e3 := Heap.get?_update_self (Obj.mapSeq (·.pop)) e2 rfl
  have k3 := kU _ (Obj.mapSeq (·.pop)) (kU _ (Obj.mapSeq (·.push Value.none)) k1)
  (refine wpAny_pure ⟨plainId_quiet F.plain_extend_loop _, ?_⟩)
  have fr : ∀ {c : Nat}, s.heap.objs.size ≤ c → H1 c = none := fun hc => hok.fresh hc
  have Z := PySem.W.ktu_apart s.heap.objs.size l1 l2 lt1 lt2
  refine drainZ (s := s) (H1 := H1) (xs := xs) (ys := ys) (us := us) (vs := vs) (A := A.in1) (h0 := s.heap) hA Z (fun b q => ?_) (ne 2 (by decide)) (ne 3 (by decide)) (ne 4 (by decide)) (ne 0 (by decide)) (ne 1 (by decide)) q1 q2 r1 r2 hlen
    (fun h H acc out F0 => ⟨rfl, hQ h H acc out F0⟩) (min xs.length ys.length) 0 _ H1 _ [] (by omega) ⟨fun b o e => k3 b o (zk b o e), ?_, hok.kept fun b o e => k3 b o (zk b o e), fun _ _ e => e, fun b n e => absurd e n, k3 _ _ zTI, ⟨_, k3 _ _ zTO⟩, z1.at fun o e => k3 _ o e, z2.at fun o e => k3 _ o e, .inl ⟨k3 _ _ zz, _, _, k3 _ _ zTO⟩, ⟨_, e3⟩, .nil, ⟨rfl, fun j hj => absurd hj (Nat.not_lt_zero j)⟩, fr (Nat.le_add_right _ _), fr (Nat.le_add_right _ _), fr (Nat.le_refl _), fr (Nat.le_add_right _ _), fr (by rw [zs]; exact Nat.le_add_right _ _)⟩
  · rcases q with rfl | rfl | rfl | rfl | rfl
    · exact Nat.le_add_right _ _
    · exact Nat.le_add_right _ _
    · exact Nat.le_refl _
    · exact Nat.le_add_right _ _
    · rw [zs]
      exact Nat.le_add_right _ _
  · rw [Heap.size_update, Heap.size_update, Heap.size_update, Heap.size_push]
    omega
def tLZ (K : PySem.W.Frag) (ta : TA) : TE := fun σ H Q => ta σ H fun vs H1 => ∃ l1 l2 xs ys, vs = [.ref l1, .ref l2] ∧ SqL K H1 l1 xs ∧ SqL K H1 l2 ys ∧ ∀ H2 out p, (∀ b o, H1 b = some o → H2 b = some o) → PairsAt H1 H2 xs ys (min xs.length ys.length) out → out.length ≤ sizeLine → H2 p = none → Q (.ref p) (upd H2 p (.lst out))
section
variable {X : Cx} {ta : TA} {a b : Expr} {p1 p2 pz pos : Pos} {k : Nat}
theorem pe_listZ (hr : Room k X.A) (hl : X.mg "list" = none) (hz : X.mg "zip" = none) (ha : PA X [a, b] ta) (g1 : Gl X "list" := by rfl) (g2 : Gl X "zip" := by rfl) (hs : starEach [a, b] X.env = (false, eval a X.env) :: starEach [b] X.env := by rfl)
    (hpl : (backTo pz (starEach [b] X.env)).any (·.1) = false := by rfl) (he : starEach [.Call (.Name "zip" p2) [a, b] [] pz] X.env = (false, eval (.Call (.Name "zip" p2) [a, b] [] pz) X.env) :: starEach [] X.env := by rfl) :
    PE X (.Call (.Name "list" p1) [.Call (.Name "zip" p2) [a, b] [] pz] [] pos) (tLZ X.K ta) := by
  (refine ⟨fun pins s σ H Q I h => ?_⟩)
  refine wpAny_Call_Name_kw (ld_blt I g1 hl (show bootBuiltins "list" = some (.type "list") from rfl) ?_)
  (refine PyProof.Rows.callWith_type1 ?_ he rfl)
  rw [he]
  show wpAny _ _ (spliced ((false, eval (.Call (.Name "zip" p2) [a, b] [] pz) X.env) :: backTo pos (starEach [] X.env))) _ _ s
  refine Calls.spliced_cons ?_
  refine Call_ (ld_blt I g2 hz PyProof.Rows.boot_zip (PyProof.Rows.callWith_type1 (thn (ha.run pz pins s σ H _ I h) fun us s1 ⟨vs, H1, I1, r1, q⟩ => ?_) hs hpl))
  obtain ⟨l1, l2, xs, ys, rfl, hx, hy, q⟩ := q
  obtain ⟨u1, u2, rfl, ra, rb⟩ := vals2 r1
  cases ra
  cases rb
  obtain ⟨its, rv, P1, z1⟩ := I1.list hx
  obtain ⟨its2, rv2, P2, z2⟩ := I1.list hy
  refine call_zip_2 P1.isList P2.isList fun h' b1 b2 b3 b4 b5 b6 b7 => ?_
  refine Calls.spliced_nil ?_
  refine call_listZ (s := s1) hr.hd I1.hok P1.isList P2.isList rv rv2 z1 P1.lt P2.lt b1 b2 b3 b4 b5 b6 b7 fun h H' acc out Fz0 => ?_
  obtain ⟨c, hl0⟩ := Fz0.lst
  have ho : out.length ≤ sizeLine := by
    rw [Fz0.prs.1]
    omega
  refine ⟨.ref h'.objs.size, upd H' h'.objs.size (.lst out), I1.drained (s' := { s1 with heap := h }) (by omega) ho hl0 Fz0.rel .nil rfl I1.bare ⟨fun b o e _ _ _ => Fz0.keep b o e, fun b o e _ _ _ => ⟨o.slots, Fz0.keep b o e⟩, fun b o e n _ => ?_, fun b o e _ => ⟨o, Fz0.keep b o e⟩, fun b x e => Fz0.same b _ e, fun b o x e => Fz0.same b _ e, fun b ps e => ⟨#[], by rw [Array.append_empty]; exact Fz0.same b _ e⟩⟩ Fz0.hok Fz0.hS, rfl, q _ _ _ Fz0.same Fz0.prs ho Fz0.hS⟩
  cases z : H' b with
  | none => rfl
  | some o2 => exact absurd (Fz0.new b (by rw [z]; simp) n) (Nat.not_le.mpr (Heap.lt_size e))
end
/-- list(zip(a, b)) -/
def dListZip (fr : S → M (List D × S)) : S → M (D × S) := fun s => bd (fr s) fun p => match p.1 with
  | [.lst ds, .lst es] => ok (.lst (zipD ds es), p.2)
  | _ => none
theorem rpA_of {K : PySem.W.Frag} {cl : Cl} {H : Hp} : ∀ {vs : List V} {ds : List D}, vs.length = ds.length → (∀ (j : Nat) (d : D), ds[j]? = some d → ∃ v, vs[j]? = some v ∧ Rp K cl H v d) → RpA K cl H vs ds
  | [], [], _, _ => .nil
  | [], _ :: _, h, _ => by (cases h)
  | _ :: _, [], h, _ => by (cases h)
  | v :: vs, d :: ds, h, r => by
    obtain ⟨v', e, q⟩ := r 0 d rfl
    cases e
    exact .cons q (rpA_of (Nat.succ.inj h) fun j d' e => r (j + 1) d' e)
section
variable {X : Cx} {cl : Cl} {a b : Expr} {p1 p2 pz pos : Pos} {k : Nat} {fr : S → M (List D × S)}
theorem d_listzip (hr : Room k X.A) (hl : X.mg "list" = none) (hz : X.mg "zip" = none) (ha : PA X [a, b] (TAof X.K cl fr)) (g1 : Gl X "list" := by rfl) (g2 : Gl X "zip" := by rfl) (hs : starEach [a, b] X.env = (false, eval a X.env) :: starEach [b] X.env := by rfl)
    (hpl : (backTo pz (starEach [b] X.env)).any (·.1) = false := by rfl) (he : starEach [.Call (.Name "zip" p2) [a, b] [] pz] X.env = (false, eval (.Call (.Name "zip" p2) [a, b] [] pz) X.env) :: starEach [] X.env := by rfl) :
    PE X (.Call (.Name "list" p1) [.Call (.Name "zip" p2) [a, b] [] pz] [] pos) (TEof X.K cl (dListZip fr)) := by
  refine iE (pe_listZ hr hl hz ha g1 g2 hs hpl he) ?_
  rintro σ H Q ⟨w, L, sd, W, h⟩
  refine ⟨w, L, sd, W, PostA.bd botE h fun rs s1 h vs H1 st1 W1 rr => ?_⟩
  dsimp only at h
  split at h
  · next ds es =>
    obtain ⟨v, u, rfl, rv, ru⟩ := rr.two
    cases rv with
    | @lst l1 xs _ q1 r1 =>
      cases ru with
      | @lst l2 ys _ q2 r2 =>
        refine ⟨l1, l2, xs, ys, rfl, hide_le.seq q1, hide_le.seq q2, fun H2 out p sm pr ho np => ?_⟩
        have sm2 : Same H1 (upd H2 p (.lst out)) := fun b o e => same_upd np b o (sm b o e)
        have al : ∀ c ∈ L ++ w.O0, (upd H2 p (.lst out)) c ≠ none := (W1.ext sm2).alive
        have np1 : H1 p = none := by
          cases z : H1 p with
          | none => rfl
          | some o =>
            have := sm p o z
            rw [np] at this
            cases this
        have hid : Same (hide (L ++ w.O0) H1) (hide (L ++ w.O0) (upd H2 p (.lst out))) := fun c o e => by
          obtain ⟨n, e⟩ := hide_some.mp e
          exact hide_some.mpr ⟨n, sm2 c o e⟩
        refine h _ _ (st1.trans (.of_same sm2)) (W1.ext sm2) (.lst (.inl (.inl (hide_some.mpr ⟨W1.new_ne np1, upd_same⟩))) (rpA_of ?_ fun j d e => ?_))
        · rw [pr.1, zipD_len, r1.len, r2.len]
        · have hj : j < (zipD ds es).length := (List.getElem?_eq_some_iff.mp e).1
          rw [zipD_len] at hj
          obtain ⟨T, x, y, e1, e2, e3, e4, e5⟩ := pr.2 j (by rw [r1.len, r2.len]; exact hj)
          have g1 : ds[j]? = some ds[j] := List.getElem?_eq_getElem (by omega)
          have g2 : es[j]? = some es[j] := List.getElem?_eq_getElem (by omega)
          rw [zipD_get ds es j _ _ g1 g2] at e
          cases e
          obtain ⟨x', k1, k2⟩ := r1.get j g1
          obtain ⟨y', k3, k4⟩ := r2.get j g2
          rw [e2] at k1
          cases k1
          rw [e3] at k3
          cases k3
          have nT : T ∉ L ++ w.O0 := W1.new_ne e5
          exact ⟨.ref T, e1, .tup (.inl (.inl (hide_some.mpr ⟨nT, same_upd np _ _ e4⟩))) (.cons (k2.mono hid) (.cons (k4.mono hid) .nil))⟩
  · exact h.elim
end
end Dt
namespace Dt
open L2 PySem PySem.Spec PyProof.Rows
/-! ### texts told apart -/
def eqS : Op2 := fun d e => match d, e with
  | .str x, .str y => ok (.bl (decide (x = y)))
  | _, _ => none
def neS : Op2 := fun d e => match d, e with
  | .str x, .str y => ok (.bl (!decide (x = y)))
  | _, _ => none
section
variable {X : Cx} {K : PySem.W.Frag} {cl : Cl}
theorem dec_strV {x y : Str} : decide (V.str x = V.str y) = decide (x = y) := by
  rw [Bool.eq_iff_iff]
  simp
theorem k_eqS : OpK X K cl (compareOp .Eq) eqS := by
  refine ⟨_, op_eq, fun O H x y d e Q _ rx ry h => ?_⟩
  unfold eqS at h
  split at h
  · cases rx
    cases ry
    exact ⟨rfl, by rw [dec_strV]; exact h.now (.bl _)⟩
  · exact h.elim
theorem k_neS : OpK X K cl (compareOp .NotEq) neS := by
  refine ⟨_, op_ne, fun O H x y d e Q _ rx ry h => ?_⟩
  unfold neS at h
  split at h
  · cases rx
    cases ry
    exact ⟨rfl, by rw [dec_strV]; exact h.now (.bl _)⟩
  · exact h.elim
end
end Dt
namespace Dt
open L2 PySem PySem.Spec PyProof.Rows
/-! ### xs.index(e) -/
def idxD (d e : D) : M D := match d with
  | .lst xs => if e.plain && D.plains xs && SeqAt.shaped e.py && SeqAt.shaped (.list (D.pys xs)) then match (D.pys xs).findIdx? (fun z => PyData.eqv z e.py) with
    | some j => ok (.int (j : Nat))
    | none => none
    else none
  | _ => none
def dIdx (fa fb : S → M (D × S)) : S → M (D × S) := fun s => bd (fa s) fun p => match p.1 with
  | .lst xs => bd (fb p.2) fun q => bd (idxD (.lst xs) q.1) fun r => ok (r, q.2)
  | _ => none
section
variable {X : Cx} {cl : Cl} {o e : Expr} {fa fb : S → M (D × S)} {apos cpos : Pos}
theorem d_index (hu : X.A.units + 65 < cLine) (ho : PE X o (TEof X.K cl fa)) (he : PE X e (TEof X.K cl fb)) (hbase : attributeBase o "index" X.env (eval o X.env) = eval o X.env := by rfl)
    (hfew : ((backTo cpos (starEach [e] X.env)).all (fun x => !x.1) && (backToKw cpos (keywordEach [] X.env)).all (fun x => x.1.isSome) && decide ([e].length + ([] : List Keyword).length + (if ([] : List Keyword).isEmpty then 0 else 1) < 30)) = true := by rfl)
    (hline : (apos.endLine == cpos.line) = true := by rfl) (hs : starEach [e] X.env = (false, eval e X.env) :: starEach [] X.env := by rfl) (hpl : (backTo cpos (starEach [] X.env)).any (·.1) = false := by rfl) :
    PE X (.Call (.Attribute o "index" apos) [e] [] cpos) (TEof X.K cl (dIdx fa fb)) := by
  refine iE (pe_bm PySem.F.plainAttrs_list PySem.F.slot_list_index PySem.F.type_list_index (mt_indexD hu) ho (pa_cons he pa_nil hs) hbase hfew hline hs hpl) ?_
  rintro σ H Q ⟨w, L, sd, W, h⟩
  refine ⟨w, L, sd, W, PostE.bd botE h fun x s1 h v H1 st1 W1 rx => ?_⟩
  cases rx with
  | @lst ad xs ds sq rs =>
    refine ⟨.inl ⟨rfl, _, hide_le.seq sq⟩, w, L, s1, W1, PostE.bd botE h fun y s2 h u H2 st2 W2 ry => ?_⟩
    have h' := h.fin (st1.trans st2) W2
    unfold idxD at h'
    dsimp only at h'
    split at h'
    · next c =>
      simp only [Bool.and_eq_true] at c
      obtain ⟨⟨⟨c1, c2⟩, c3⟩, c4⟩ := c
      have rl := ((Rp.lst sq rs).mono (st2.sn W2)).mono hide_le
      split at h'
      · next j ej =>
        obtain ⟨hj, q1, q2⟩ := List.findIdx?_eq_some_iff_getElem.mp ej
        have d1 := rp_dp (D.lst ds) _ rl (by rw [D.plain]; exact c2)
        rw [D.py] at d1
        refine ⟨ad, u, y.py, D.pys ds, j, (D.pys ds)[j], rfl, rfl, d1, rp_dp y _ (ry.mono hide_le) c1, c4, c3, List.getElem?_eq_getElem hj, q1, fun m z' hm e' => ?_, h'.now (.int _)⟩
        obtain ⟨hm', ez⟩ := List.getElem?_eq_some_iff.mp e'
        have := q2 m hm
        rw [ez] at this
        simpa using this
      · exact h'.elim
    · exact h'.elim
  | _ => exact h.elim
/-- a constant of the module -/
theorem d_gint {x : Str} {i : Int} {K : PySem.W.Frag} {pos : Pos} (hm : ∃ t, X.mg x = some (.int i t)) (hg : Gl X x := by rfl) (hd : (x == ("__debug__" : Str)) = false := by decide) : PE X (.Name x pos) (TEof K cl (dC (.int i))) := by
  obtain ⟨t, hm⟩ := hm
  exact dC_of (pe_glob hg hm (v := .int i) ⟨t, rfl⟩ hd) fun _ => .int i
end
/-- two keywords in the other order -/
def sw2 {α : Type} : List α → List α
  | [a, b] => [b, a]
  | l => l
theorem vals_sw2 {vs : List V} {us : List Value} (h : Vals vs us) : Vals (sw2 vs) (sw2 us) := by
  cases h with
  | nil => exact .nil
  | cons r1 t =>
    cases t with
    | nil => exact .cons r1 .nil
    | cons r2 t =>
      cases t with
      | nil => exact .cons r2 (.cons r1 .nil)
      | cons r3 t => exact .cons r1 (.cons r2 (.cons r3 t))
theorem rpA_sw2 {K : PySem.W.Frag} {cl : Cl} {H : Hp} {vs : List V} {ds : List D} (h : RpA K cl H vs ds) : RpA K cl H (sw2 vs) (sw2 ds) := by
  cases h with
  | nil => exact .nil
  | cons r1 t =>
    cases t with
    | nil => exact .cons r1 .nil
    | cons r2 t =>
      cases t with
      | nil => exact .cons r2 (.cons r1 .nil)
      | cons r3 t => exact .cons r1 (.cons r2 (.cons r3 t))
end Dt
namespace Dt
open L2 PySem PySem.Spec PyProof.Rows
/-! ### def f(*v) -/
structure FnV (P : Program) (w : World) (K : PySem.W.Frag) (mg : Str → Option Value) (base : Heap) (k : Nat) (f : Addr) (sp : Sp) : Prop where
  go : ∀ (A : Around) (outer : List Env) (s : Shared) (H : Hp) (us : List Value) (vs : List V) (Q : VK) (E : XK), A.guards = some [] → Room k A →
    Env0 P w K mg base A outer s H → Vals vs us → sp vs H Q E → codeAny (model P w) A (.call (.ref f) ⟨us, []⟩) (CR CX0 outer P w H s Q E) s
/-- all arguments as one tuple -/
def spV (K : PySem.W.Frag) (cl : Cl) (g : FnD) : Sp := fun vs H Q _ => ∃ (O : List Addr) (ds : List D), (∀ a ∈ O, H a ≠ none) ∧ RpA K cl (hide O H) vs ds ∧ ds.length ≤ sizeLine ∧ Fin1 K cl O H Q (g [.tup ds])
theorem FnV.mono {P : Program} {w : World} {K : PySem.W.Frag} {mg : Str → Option Value} {base : Heap} {k j : Nat} {f : Addr} {sp : Sp} (F : FnV P w K mg base j f sp) (h : j ≤ k) : FnV P w K mg base k f sp :=
  ⟨fun A outer s H us vs Q E hg hr => F.go A outer s H us vs Q E hg (hr.mono h)⟩
theorem okV {P : Program} {w : World} {K : PySem.W.Frag} {cl : Cl} {mg : Str → Option Value} {base : Heap} {k : Nat} {f : Addr} {fd : FuncData} {pv x qual : Str} {params : Arguments} {body : List Stmt} {scope : Scope} {N : List Str} {F : S → M Out} {g : FnD}
    (D0 : FunD K x qual params body scope [] [] f fd) (sc : FnScope N [pv] scope) (eg : g = runP N.length F)
    (hb : ∀ (kV doc pm : Value) (an : Option Addr) (cdv ct : Value) (rest : List Value), bindArgs (PySem.W.fnOf x qual params body scope .none kV doc pm an cdv ct) ⟨rest, []⟩ = (newTuple rest >>= fun t => pure [(pv, t)]))
    (h : ∀ (cdv : Value) (A : Around) (outer : List Env) (s : Shared) (H : Hp) (E : XK), A.guards = some [] → Room k (A.deeper (envOfC qual scope s.heap.objs.size f cdv)) →
      ∃ ts, PSs (cxOf CX0 P w K mg base N qual scope f cdv A outer s H E).nox body (TSof K cl ts F)) : FnV P w K mg base (k + 1) f (spV K cl g) := by
  subst eg
  obtain ⟨oc, od, dV, kV, doc, pm, an, cdv, ct, osl, rfl, lk, hcd, hD, _⟩ := D0.ex
  have hdv : dV = .none := by
    rcases hD with ⟨_, z⟩ | ⟨z, _⟩
    · exact z
    · exact absurd rfl z
  subst hdv
  refine ⟨fun A outer s H us vs Q E hg hr e0 rv hsp => ?_⟩
  obtain ⟨O, ds, al, rs, hl, hq⟩ := hsp
  have np : H s.heap.objs.size = none := e0.hok.fresh (Nat.le_refl _)
  have len : us.length ≤ sizeLine := by
    rw [← rv.length, rs.len]
    exact hl
  refine StX.run_bnd (CX := CX0) lk hcd sc hr e0 (G := fun xs H2 => xs = [V.ref s.heap.objs.size] ∧ H2 = upd H s.heap.objs.size (.tup vs)) (fun A' Ex Q' z => ?_) fun s2 H2 xs ⟨ex, eH⟩ hr' => ?_
  · rw [hb]
    refine wpAny_bind (wpAny_newTuple (wpAny_pure ?_) len)
    have new : ObjOk P w (upd H s.heap.objs.size (.tup vs)) (s.heap.push ({ cls := .type "tuple", data := .seq us.toArray } : Obj)) s.heap.objs.size (.tup vs) := ⟨by rw [rs.len]; exact hl, us, rv, ⟨_, Heap.get?_push_size _ rfl, rfl, _, rfl⟩⟩
    have un := StX.un_laid (fs := frs outer) (s := s) (o := ({ cls := .type "tuple", data := .seq us.toArray } : Obj)) (u := .tup vs) np
    exact z _ _ [V.ref s.heap.objs.size] [Value.ref s.heap.objs.size] (StX.env0_laid e0 new) un rfl (fun e s' y => False.elim y) (.cons rfl .nil) rfl ⟨rfl, rfl⟩
  · subst ex eH
    obtain ⟨ts, hw⟩ := h cdv A outer s2 (upd H s.heap.objs.size (.tup vs)) E hg hr'
    have sm := same_upd (o := .tup vs) np
    have pr : spP K cl 1 (runP N.length F) [V.ref s.heap.objs.size] (upd H s.heap.objs.size (.tup vs)) Q E0 := by
      refine ⟨rfl, O, [.tup ds], fun a ha => ?_, .cons (.tup (.inl (.inl (hide_new al np))) (rs.mono (hide_upd np))) .nil, ?_⟩
      · have n := al a ha
        cases q : H a with
        | none => exact absurd q n
        | some o =>
          rw [sm a o q]
          simp
      · generalize runP N.length F [.tup ds] = m at hq
        match m, hq with
        | none, hq => exact hq.elim
        | some (.ex _), hq => exact hq.elim
        | some (.ok r), hq => exact fun v H' a b => hq v H' (fun b' o' e' => a b' o' (sm b' o' e')) b
    obtain ⟨t, t1, t2⟩ := walkP hw pr
    exact ⟨t, t1.nox, t2⟩
/-! ### calls f(e, ..) of def f(*v) -/
def dCallV (g : FnD) (fr : S → M (List D × S)) : S → M (D × S) := fun s => bd (fr s) fun p => if p.1.length ≤ sizeLine then bd (g [.tup p.1]) fun r => ok (r, p.2) else none
section
variable {X : Cx} {k : Nat} {f : Addr} {x : Str} {p pos : Pos} {e : Expr} {es : List Expr} {cl : Cl} {fr : S → M (List D × S)} {g : FnD}
theorem d_callV (F : FnV X.prog X.w X.K X.mg X.base k f (spV X.K cl g)) (hgd : X.A.guards = some []) (hr : Room k X.A) (hm : X.mg x = some (.ref f)) (hk : PySem.W.keepIn X.K (.ref f) = true)
    (ha : PA X (e :: es) (TAof X.K cl fr)) (hg : Gl X x := by rfl) (hdb : (x == ("__debug__" : Str)) = false := by decide) (hs : starEach (e :: es) X.env = (false, eval e X.env) :: starEach es X.env := by rfl)
    (hpl : (backTo pos (starEach es X.env)).any (·.1) = false := by rfl) : PE X (.Call (.Name x p) (e :: es) [] pos) (TEof X.K cl (dCallV g fr)) := by
  constructor
  intro pins s σ H Q I h
  obtain ⟨w, L, sd, W, h⟩ := h
  have h2 : TAof X.K cl fr σ H (fun vs H1 => spV X.K cl g vs H1 Q E0) := by
    refine ⟨w, L, sd, W, PostA.bd botE h fun rs s1 h vs H1 st1 W1 rrs => ?_⟩
    dsimp only at h
    split at h
    · next c => exact ⟨L ++ w.O0, rs, W1.alive, rrs, c, h.fin st1 W1⟩
    · exact h.elim
  refine wpAny_Call_Name_kw (ld_glob I hg hm (PySem.W.callWith_K (h₀ := X.base) I.ok.mod.kin hk (thn (ha.run pos pins s σ H _ I h2) ?_) hs hpl) hdb)
  rintro us s1 ⟨vs, H1, I1, r, q⟩
  exact ⟨I1.kIn, ran pass0 I1 (F.go X.A X.stack s1 H1 us vs Q E0 hgd hr I1.env0 r q)⟩
theorem d_callV0 (F : FnV X.prog X.w X.K X.mg X.base k f (spV X.K cl g)) (hgd : X.A.guards = some []) (hr : Room k X.A) (hm : X.mg x = some (.ref f)) (hk : PySem.W.keepIn X.K (.ref f) = true)
    (hg : Gl X x := by rfl) (hdb : (x == ("__debug__" : Str)) = false := by decide) : PE X (.Call (.Name x p) [] [] pos) (TEof X.K cl (dCallV g aNil)) := by
  constructor
  intro pins s σ H Q I h
  obtain ⟨w, L, sd, W, h⟩ := h
  have h : PostE X.K cl w L σ H Q (if ([] : List D).length ≤ sizeLine then bd (g [.tup []]) fun r => ok (r, sd) else none) := h
  have hz : ([] : List D).length ≤ sizeLine := Nat.zero_le sizeLine
  rw [if_pos hz] at h
  exact wpAny_Call_Name_kw (ld_glob I hg hm (PySem.W.callWith_K0 I.kIn hk (ran pass0 I (F.go X.A X.stack s H [] [] Q E0 hgd hr I.env0 .nil ⟨L ++ w.O0, [], W.alive, .nil, hz, h.fin .refl W⟩))) hdb)
end
/-! ### a, b = ([], []), lists of the def's own -/
def sParNew (i j : Nat) : S → M Out := fun s => ok (.nx ((s.set i (.own (.lst []))).set j (.own (.lst []))))
section
variable {X : Cx} {K : PySem.W.Frag} {cl : Cl}
theorem step_new {w : Wf} {L : List Addr} {H : Hp} {p : Addr} {o : HO} (np : H p = none) : Step w L H (p :: L) (upd H p o) := by
  have st : Step w L H L (upd H p o) := .of_same (same_upd np)
  refine ⟨st.keep, st.alv, fun a ha => ?_⟩
  rcases List.mem_cons.mp ha with z | z
  · exact .inr (z ▸ np)
  · exact .inl z
theorem wl_new {w : Wf} {L : List Addr} {sd : S} {σ : L2.St} {H : Hp} {p : Addr} (i : Nat) (W : Wl K cl w L sd σ H) (np : H p = none) : Wl K cl w (p :: L) (sd.set i (.own (.lst []))) (σ.set i (some (.ref p))) (upd H p (.lst [])) :=
  Wl.setOwn i (W.ext (same_upd np)) (W.new_ne np) (W.made (same_upd np) np (by rw [upd_same]; simp)) ⟨[], upd_same, .nil⟩
theorem s_parNew {i j : Nat} {x y : Str} {px py pt p1 p2 pos : Pos} {kt k2 pt2} (hc : X.calm = true) (hN : X.N.Nodup) (hi : X.N[i]? = some x := by rfl) (hj : X.N[j]? = some y := by rfl) (hij : i ≠ j := by decide)
    (hx : X.env.scope.names.lookup x = some .local := by rfl) (hy : X.env.scope.names.lookup y = some .local := by rfl) (h1 : starEach [.List [] p1, .List [] p2] X.env = (false, eval (.List [] p1) X.env) :: starEach [.List [] p2] X.env := by rfl) (h2 : starEach [.List [] p2] X.env = (false, eval (.List [] p2) X.env) :: starEach [] X.env := by rfl)
    (hw : swappedStores [.Tuple [.Name x px, .Name y py] kt pt] (.Tuple [.List [] p1, .List [] p2] k2 pt2) X.env = pure (some [x, y]) := by rfl)
    (hs : swapsWithSole [.Tuple [.Name x px, .Name y py] kt pt] (.Tuple [.List [] p1, .List [] p2] k2 pt2) pos.line X.env = pure false := by rfl) :
    PS X (.Assign [.Tuple [.Name x px, .Name y py] kt pt] (.Tuple [.List [] p1, .List [] p2] k2 pt2) pos) (TSof K cl ([i] ++ [j]) (sParNew i j)) := by
  refine iS (ps_par hc hN hi hj hij hx hy (pa_cons (pe_lst pa_nil) (pa_cons (pe_lst pa_nil) pa_nil h2) h1) hw hs) ?_
  rintro E σ H ⟨w, L, sd, W, h⟩
  refine ⟨Nat.zero_le _, fun p np => ⟨Nat.zero_le _, fun q nq => ⟨.ref p, .ref q, rfl, ?_⟩⟩⟩
  exact h (q :: p :: L) _ _ ((step_new np).trans (step_new nq)) (wl_new j (wl_new i W np) nq) (agree_set.trans agree_set)
end
end Dt
namespace Dt
open L2 PySem PySem.Spec PyProof.Rows
/-! ### enumerate of a tuple -/
theorem meets_enumerate_newB1 {v : Value} {o : Obj} {H : Heap → Prop} (B : Begins v o H) :
    Meets (Builtin.«enumerate.__new__» ⟨[.type "enumerate", v], []⟩) (fun _ R s => H s.heap ∧
      R (.ok (.ret (.ref (s.heap.push o).objs.size))) { s with heap := (s.heap.push o).push { cls := .type "enumerate", data := .fields #[.none, .bool false, .ref s.heap.objs.size, rawInt 0, .none, .none] } }) :=
  .of_wp fun pr wd A R st0 h0 => by
    obtain ⟨hp, g, d, tk, os⟩ := st0; obtain ⟨h1, h⟩ := h0
    have hsub := sub_enumerate
    have q1 : ∀ {A' : Around} {E : Value → Shared → Prop} {Q : Value → Shared → Prop}, Q (.ref hp.objs.size) ⟨hp.push o, g, d, tk, os⟩ → wpAny (model pr wd) A' (pyIter v) Q E ⟨hp, g, d, tk, os⟩ :=
      fun qq => B.iter pr wd _ _ ⟨hp, g, d, tk, os⟩ _ h1 qq
    wp_walk using q1
    (refine wpAny_stack_any fun st => wpAny_pure ?_)
    split
    · rename_i c _ _ _ _ _
      (cases (c == Value.type "enumerate"))
      · wp_walk using q1
        exact ⟨_, rfl, h⟩
      · wp_walk using q1
        exact ⟨_, rfl, h⟩
    · wp_walk using q1
      exact ⟨_, rfl, h⟩
theorem call_enumerate_tup {prog : Program} {w : World} {A : Around} {E : Value → Shared → Prop} {s : Shared} {l : Addr} {items : Array Value} {Q : Value → Shared → Prop} (hT : s.heap.IsTuple l items)
    (h : ∀ h', IsEnum h' (s.heap.objs.size + 1) s.heap.objs.size 0 .none → h'.IsTupleIter s.heap.objs.size l 0 → h'.objs.size = s.heap.objs.size + 2 →
      (∀ b o, s.heap.get? b = some o
            → h'.get? b = some o) → Q (.ref (s.heap.objs.size + 1)) { s with heap := h' }) :
    wpAny (model prog w) A
          (call (.type "enumerate") [.ref l]) Q E s := by
  refine callType_new PySem.F.called_enumerate (by decide) (PySem.F.typeCall_enumerate_1 _) (PySem.F.newCall_enumerate_1 _) (fun obj => PySem.F.args_object_init_2 obj _) PySem.F.entry_enumerate_new
    (meets_enumerate_newB1 (begins_tuple l items)) ⟨hT, ?_⟩
  have hz : (s.heap.push { cls := .type "tuple_iterator", data := .fields #[.ref l, .int 0 0] }).objs.size = s.heap.objs.size + 1 := Heap.size_push ..
  show _ ∧ _
  rw [hz]
  have he : IsEnum ((s.heap.push { cls := .type "tuple_iterator", data := .fields #[.ref l, .int 0 0] }).push
      { cls := .type "enumerate", data := .fields #[.none, .bool false, .ref s.heap.objs.size, rawInt 0, .none, .none] })
            (s.heap.objs.size + 1) s.heap.objs.size 0 .none := by
    have := Heap.get?_push_size (s.heap.push { cls := .type "tuple_iterator", data := .fields #[.ref l, .int 0 0] })
      (o := { data := .fields #[.none, .bool false, .ref s.heap.objs.size, rawInt 0, .none, .none], cls := .type "enumerate" }) rfl
    rw [hz] at this; exact this
  (refine ⟨⟨_, he, rfl⟩, h _ he ⟨_, Heap.get?_push_of_some _ (Heap.get?_push_size _ rfl), rfl, rfl⟩ (by rw [Heap.size_push, hz]) fun b o x => Heap.get?_push_of_some _ (Heap.get?_push_of_some _ x)⟩)
/-- the tuple at a as it stands at each turn, each item in a new pair -/
def IteT (K : PySem.W.Frag) (a : Addr) : It :=
  ⟨fun i H => ∃ (xs : List V) (x : V), SqT K H a xs ∧ xs[i]? = some x, fun i H v H' => ∃ T x, v = .ref T ∧ H T = none ∧ H' = upd H T (.tup [.int (i : Nat), x]) ∧ ∀ xs, SqT K H a xs → xs[i]? = some x, fun i H => ∃ xs : List V, SqT K H a xs ∧ xs.length ≤ i⟩
theorem turn_enumT {P : Program} {w : World} {K : PySem.W.Frag} {elts : List Expr} {kk : Nat} {tpos : Pos} (a e it : Addr) (hae : a ≠ it) (hae2 : a ≠ e) :
    Turn P w K (.Tuple elts kk tpos) (IteT K a) [e, it] e (fun i h => (∃ old, IsEnum h e it ((i : Nat) : Int) old) ∧ h.IsTupleIter it a i ∧ e ≠ it) where
  mem := by simp
  obj := fun i h st b hb => by
    (obtain ⟨⟨old, he⟩, ⟨o, ho, hc, hd⟩, _⟩ := st)
    (have e' : b = e ∨ b = it := by simpa using hb)
    rcases e' with z | z
    · (rw [z]; exact ⟨_, he, fun v q => nomatch q⟩)
    · (rw [z]; exact ⟨o, ho, fun v q => by rw [hd] at q; cases q⟩)
  keep := fun i h h' st k => let ⟨⟨old, he⟩, hi, hne⟩ := st; ⟨⟨old, k e
        (by simp) _ he⟩, hi.at fun o q => k it (by simp) o q, hne⟩
  item := by
    (intro X hP hw hK hc i pins s σ H E I hf st hg)
    subst hP hw hK
    (obtain ⟨⟨old, he⟩, hit, hne⟩ := st)
    obtain ⟨xs, x, hq, hx⟩ := hg
    (obtain ⟨its, rv, p, hz⟩ := I.tuple hq)
    (obtain ⟨u, hu, ru⟩ := rv.get hx)
    (have hel : e < s.heap.objs.size := Heap.lt_size he)
    (have hil : it < s.heap.objs.size := by obtain ⟨_, q, _⟩ := hit; exact Heap.lt_size q)
    have hil2 : i < its.toArray.size := by
      have := (List.getElem?_eq_some_iff.mp hu).1
      simpa using this
    refine wpAny_pyNext_enum_itemD (Draws.tuple (A := X.A.in1) (prog := X.prog) (w := X.w) (I.ok.hd hc) it a hae its.toArray) he ⟨hit, p⟩ hil2 hne (fun z => ?_) fun x' h' tk hx' ho hst' hT hsz hk => ?_
    · (rcases List.mem_cons.mp z with z | z)
      · exact hne z
      · exact hae2 (List.mem_singleton.mp z).symm
    have ex : x' = u := by
      have h1 : its[i]? = some x' := by simpa using hx'
      rw [hu] at h1
      cases h1
      rfl
    subst ex
    obtain ⟨hit', _⟩ := hst'
    refine ⟨_, rfl, wpAny_letOwnedTupleGo_enum (s := { s with heap := h', toks := tk + 1 }) ho fun h'' he' sb => ?_⟩
    have hT2 : h''.get? s.heap.objs.size = some { cls := .type "tuple", data := .seq #[.int i tk, x'] } := (sb.2 _ (Nat.ne_of_gt hel)).trans hT
    have new
          : ObjOk X.prog X.w (upd H s.heap.objs.size (.tup [.int (i : Nat), x])) h'' s.heap.objs.size (.tup [.int (i : Nat), x]) :=
      ⟨by show 2 ≤ sizeLine; decide, [.int i tk, x'], .cons ⟨_, rfl⟩ (.cons ru .nil), ⟨_, hT2, rfl, _, rfl⟩⟩
    have I1 : Inv X pins σ (upd H s.heap.objs.size (.tup [.int (i : Nat), x])) { s with heap := h'', toks := tk + 1 } :=
      I.turnedNew (t' := tk + 1) (ch := [e, it]) (fun b ob hb q => (sb.2 b (fun z => hb (by simp [z]))).trans (hk b ob (fun z => hb (by simp [z])) (fun z => hb (by simp [z])) q)) hf (Nat.le_refl _) new
    refine ⟨.ref s.heap.objs.size, _, I1, rfl, ⟨_, x, rfl, I.hok.fresh (Nat.le_refl _), rfl, fun ys hy => by rw [I.tuple_inj hy hq]; exact hx⟩, ⟨⟨x', ?_⟩, hit'.at fun o q => (sb.2 it (Ne.symm hne)).trans q, hne⟩, fun b hb => ?_⟩
    · (have e1 : ((i + 1 : Nat) : Int) = (i : Int) + 1 := by omega)
      rw [e1]; exact he'
    · have hb'
          : b < s.heap.objs.size := by
        (have e' : b = e ∨ b = it := by simpa using hb)
        rcases e' with z | z
        · rw [z]; exact hel
        · rw [z]; exact hil
      (rw [upd_ne (Nat.ne_of_lt hb')])
      exact (hf b hb).1
  done := by
    (intro X hP hw hK hc i pins s σ H E I hf st hg)
    subst hP hw hK
    (obtain ⟨⟨old, he⟩, hit, hne⟩ := st)
    obtain ⟨xs, hq, hx⟩ := hg
    (obtain ⟨its, rv, p, hz⟩ := I.tuple hq)
    (obtain ⟨f0, f1, f2, f3, f4, f5⟩ := hf it (by simp))
    have hl := rv.length
    have D0 : Draws X.prog X.w X.A.in1 it [it, a] 0 (fun _ _ => False) (fun _ h => h.IsTupleIter it a i ∧ h.IsTuple a its.toArray) := by
      refine ⟨fun _ _ st => let ⟨o, ho, _⟩ := st.1; ⟨o, ho⟩, fun _ _ _ st hk => ⟨st.1.at fun o e => hk it (by simp) o e, st.2.at fun o e => hk a (by simp) o e⟩, fun _ _ _ _ hi => absurd hi (Nat.not_lt_zero _), fun s Q E st hE => ?_⟩
      exact wpAny_nextOf_tuple_end (I.ok.hd hc) st.1 st.2 (by simp; omega) hE
    exact wpAny_pyNext_enum_endD D0 he ⟨hit, p⟩ fun h' eb => ⟨rfl, I.turned (t' := s.toks) (fun b o hb q => eb b o hb q) f0 f1 f3 f4 f5⟩
  self := fun A i s Q E st hq => let ⟨⟨_, he1⟩, _⟩ := st; wpAny_pyIter_enum he1 hq
def iEnumT (K : PySem.W.Frag) (ta : TA) : TI := fun σ H R => ta σ H fun vs H1 => ∃ a xs, vs = [.ref a] ∧ SqT K H1 a xs ∧ R (IteT K a) H1
theorem pi_enumT {X : Cx} {e : Expr} {ta : TA} {p pos tpos : Pos} {elts : List Expr} {kk : Nat} (hg : Gl X "enumerate") (hm : X.mg "enumerate" = none) (ha : PA X [e] ta) (hs : starEach [e] X.env = [(false, eval e X.env)] := by rfl) :
    PI X (.Tuple elts kk tpos) (.Call (.Name "enumerate" p) [e] [] pos) (iEnumT X.K ta) := by
  (refine ⟨fun pins s σ H R I h => ?_⟩)
  (refine Call_ (ld_blt I hg hm boot_enumerate (PyProof.Rows.callWith_type1 (thn (ha.run pos pins s σ H _ I h) fun us s1 ⟨vs, H1, I1, r1, q1⟩ => ?_) hs rfl)))
  (obtain ⟨a, xs, ex, hq, q⟩ := q1)
  subst ex
  cases r1 with
  | cons r rr =>
    cases rr
    cases r
    obtain ⟨its, rv, p', hz⟩ := I1.tuple hq
    obtain ⟨o1, ho1, _⟩ := id p'
    have hla : a < s1.heap.objs.size := Heap.lt_size ho1
    refine call_enumerate_tup p' fun h' he hit hsz hk => wpAny_pyIter_enum he ?_
    (have I2 : Inv X pins σ H1 { s1 with heap := h' } := I1.kept (t' := s1.toks) hk)
    refine ⟨s1.heap.objs.size + 1, [s1.heap.objs.size + 1, s1.heap.objs.size], _, _, H1, rfl, I2, turn_enumT a (s1.heap.objs.size + 1) s1.heap.objs.size (Nat.ne_of_lt hla) (Nat.ne_of_lt (Nat.lt_succ_of_lt hla)), ⟨⟨.none, he⟩, hit, Nat.succ_ne_self _⟩, fun b hb => ?_, q⟩
    (have e' : b = s1.heap.objs.size + 1 ∨ b = s1.heap.objs.size := by simpa using hb)
    have hle
          : s1.heap.objs.size ≤ b := by
      rcases e' with z | z
      · (rw [z]; exact Nat.le_add_right _ _)
      · rw [z]; exact Nat.le_refl _
    (exact I1.fpOk hle (I1.hok.fresh hle))
def iEnT (fr : S → M (List D × S)) : S → M (List D × S) := fun s => bd (fr s) fun p => match p.1 with
  | [.tup ds] => ok (enumD 0 ds, p.2)
  | _ => none
section
variable {X : Cx} {K : PySem.W.Frag} {cl : Cl} {pos p : Pos} {e : Expr} {fr : S → M (List D × S)}
theorem itok_enT {O : List Addr} {H0 : Hp} {a : Addr} {xs : List V} {ds : List D} (s : SqT K (hide O H0) a xs) (r : RpA K cl (hide O H0) xs ds) : ItOK K cl O H0 (enumD 0 ds) (IteT K a) where
  go := fun i O' H sm hi => by
    have e := r.len
    rw [enumD_len] at hi
    exact ⟨xs, xs[i], same_sqT hide_le (same_sqT sm s), List.getElem?_eq_getElem (by omega)⟩
  stop := fun i O' H sm hi => ⟨xs, same_sqT hide_le (same_sqT sm s), by rw [r.len]; rw [enumD_len] at hi; exact hi⟩
  yld := fun i O' H x H' sm al y => by
    obtain ⟨T, x1, rfl, nT, rfl, y⟩ := y
    refine ⟨same_upd nT, fun d hd => ?_⟩
    rw [enumD_get] at hd
    cases q : ds[i]? with
    | none => rw [q] at hd; cases hd
    | some d1 =>
      rw [q] at hd
      cases hd
      obtain ⟨v, h1, h2⟩ := r.get i q
      have h3 := y xs (same_sqT hide_le (same_sqT sm s))
      rw [h1] at h3
      cases h3
      refine .tup (.inl (.inl (hide_new al nT))) (.cons ?_ (.cons ((h2.mono sm).mono (hide_upd nT)) .nil))
      have e : (0 + i : Nat) = i := by omega
      rw [e]
      exact .int _
theorem w_enumT {elts : List Expr} {kk : Nat} {tpos : Pos} (hm : X.mg "enumerate" = none) (ha : PA X [e] (TAof X.K cl fr)) (hg : Gl X "enumerate" := by rfl) (hs : starEach [e] X.env = [(false, eval e X.env)] := by rfl) : PI X (.Tuple elts kk tpos) (.Call (.Name "enumerate" p) [e] [] pos) (TIof X.K cl (iEnT fr)) := by
  refine iP (pi_enumT hg hm ha hs) ?_
  rintro σ H Q ⟨w, L, sd, W, h⟩
  refine ⟨w, L, sd, W, PostA.bd botI h fun rs s1 h vs H1 st1 W1 rr => ?_⟩
  dsimp only at h
  split at h
  · obtain ⟨v, rfl, rv⟩ := rr.one
    cases rv with
    | tup s r => exact ⟨_, _, rfl, same_sqT hide_le s, h _ H1 st1 W1 (itok_enT s r)⟩
  · exact h.elim
end
end Dt
namespace Dt
open L2 PySem PySem.Spec PyProof.Rows
/-! ### reckoning with mirrors -/
theorem v_add (i j : Int) : addI (.int i) (.int j) = ok (.int (i + j)) := rfl
theorem v_sub (i j : Int) : subI (.int i) (.int j) = ok (.int (i - j)) := rfl
theorem v_mulL {i j : Int} (h1 : -(2 ^ 64) < i) (h2 : i < 2 ^ 64) : mulI (.int i) (.int j) = ok (.int (i * j)) := if_pos (.inl ⟨h1, h2⟩)
theorem v_mulR {i j : Int} (h1 : -(2 ^ 64) < j) (h2 : j < 2 ^ 64) : mulI (.int i) (.int j) = ok (.int (i * j)) := if_pos (.inr (.inl ⟨h1, h2⟩))
theorem v_mod {i j : Int} (h : 0 < j) : modI (.int i) (.int j) = ok (.int (i % j)) := if_pos h
theorem v_div {i j : Int} (h : divOk j) : divI (.int i) (.int j) = ok (.int (i / j)) := if_pos h
theorem v_pow {i j : Int} (h : powOk i j) : powI (.int i) (.int j) = ok (.int (i ^ j.toNat)) := if_pos h
theorem v_lt (i j : Int) : ltI (.int i) (.int j) = ok (.bl (decide (i < j))) := rfl
theorem v_le (i j : Int) : leI (.int i) (.int j) = ok (.bl (decide (i ≤ j))) := rfl
theorem v_gt (i j : Int) : gtI (.int i) (.int j) = ok (.bl (decide (j < i))) := rfl
theorem v_ge (i j : Int) : geI (.int i) (.int j) = ok (.bl (decide (j ≤ i))) := rfl
theorem v_is0 : isNon .non .non = ok (.bl true) := rfl
theorem v_is1 (i : Int) : isNon (.int i) .non = ok (.bl false) := rfl
theorem v_eqI (i j : Int) : eqD (.int i) (.int j) = ok (.bl (decide (i = j))) := by
  unfold eqD
  simp only [D.plain, D.py, SeqAt.shaped, Bool.and_self, if_true]
  congr
theorem v_neI (i j : Int) : neD (.int i) (.int j) = ok (.bl (!decide (i = j))) := by
  unfold neD
  simp only [D.plain, D.py, SeqAt.shaped, Bool.and_self, if_true]
  congr
theorem v_isII (i : Int) : isD "int" (.int i) = ok (.bl true) := rfl
theorem v_isBI (i : Int) : isD "bool" (.int i) = ok (.bl false) := by
  have h : kitB "int" "bool" = some false := by decide +kernel
  unfold isD tyD
  simp only [h]
/-- (no rfl theorem: simp shall not fold it into a check by unfolding) -/
theorem bd_ok' {α β : Type} (a : α) (f : α → M β) : bd (ok a) f = f a := by
  have h : bd (ok a) f = f a := rfl
  exact h
theorem bd_some {α β : Type} (a : α) (f : α → M β) : bd (some (.ok a)) f = f a := rfl
/-- lists of ints -/
abbrev iD (ns : List Int) : List D := ns.map D.int
theorem plains_i : ∀ ns : List Int, D.plains (iD ns) = true
  | [] => rfl
  | n :: ns => by
    show (D.plain (.int n) && D.plains (iD ns)) = true
    rw [plains_i ns]
    rfl
theorem pys_i : ∀ ns : List Int, D.pys (iD ns) = ns.map PyData.int
  | [] => rfl
  | n :: ns => by
    show D.py (.int n) :: D.pys (iD ns) = _
    rw [pys_i ns]
    rfl
theorem v_neS (x y : Str) : neS (.str x) (.str y) = ok (.bl (!decide (x = y))) := rfl
theorem v_eqS (x y : Str) : eqS (.str x) (.str y) = ok (.bl (decide (x = y))) := rfl
theorem lay_i : ∀ ns : List Int, PyData.canLayAll0 (ns.map PyData.int) = true
  | [] => rfl
  | n :: ns => by
    show (PyData.canLay0 (.int n) && PyData.canLayAll0 (ns.map PyData.int)) = true
    rw [lay_i ns]
    rfl
theorem depth_i : ∀ ns : List Int, PyData.depthAll (ns.map PyData.int) = 0
  | [] => rfl
  | n :: ns => by
    show max (PyData.depth (.int n)) (PyData.depthAll (ns.map PyData.int)) = 0
    rw [depth_i ns]
    rfl
theorem shaped_i (ns : List Int) : SeqAt.shaped (.list (ns.map PyData.int)) = true := by
  unfold SeqAt.shaped
  rw [PyData.canLay0, lay_i, PyData.depth, depth_i]
  rfl
theorem any_i (k : Int) : ∀ ns : List Int, ((ns.map PyData.int).any fun z => PyData.eqv z (.int k)) = decide (k ∈ ns)
  | [] => rfl
  | n :: ns => by
    rw [List.map_cons, List.any_cons, any_i k ns]
    show ((n == k) || decide (k ∈ ns)) = _
    by_cases h : n = k
    · subst h
      simp
    · have h2 : ¬ k = n := fun e => h e.symm
      have h3 : (n == k) = false := beq_false_of_ne h
      rw [h3]
      simp [h2]
/-- k in a list of ints -/
theorem v_inL (k : Int) (ns : List Int) : inD (.int k) (.lst (iD ns)) = ok (.bl (decide (k ∈ ns))) := by
  unfold inD
  dsimp only
  rw [plains_i, pys_i, shaped_i, D.py, any_i]
  rfl
theorem v_ninL (k : Int) (ns : List Int) : ninD (.int k) (.lst (iD ns)) = ok (.bl (!decide (k ∈ ns))) := by
  unfold ninD
  dsimp only
  rw [plains_i, pys_i, shaped_i, D.py, any_i]
  rfl
theorem v_eqT2 (a b c d : Int) : eqD (.tup [.int a, .int b]) (.tup [.int c, .int d]) = ok (.bl (decide (a = c ∧ b = d))) := by
  unfold eqD
  simp only [D.plain, D.plains, D.py, D.pys, SeqAt.shaped, PyData.canLay0, PyData.canLayAll0, PyData.depth, PyData.depthAll, Bool.and_self, if_true, PyData.eqv, PyData.eqvAll, Bool.and_true]
  show ok (D.bl ((a == c) && (b == d))) = _
  congr 2
  rw [Bool.eq_iff_iff]
  simp
/-- pairs of ints -/
abbrev pD (ps : List (Int × Int)) : List D := ps.map fun p => D.tup [.int p.1, .int p.2]
abbrev pY (ps : List (Int × Int)) : List PyData := ps.map fun p => PyData.tuple [.int p.1, .int p.2]
theorem plains_p : ∀ ps : List (Int × Int), D.plains (pD ps) = true
  | [] => rfl
  | p :: ps => by
    show (D.plain (.tup [.int p.1, .int p.2]) && D.plains (pD ps)) = true
    rw [plains_p ps]
    rfl
theorem pys_p : ∀ ps : List (Int × Int), D.pys (pD ps) = pY ps
  | [] => rfl
  | p :: ps => by
    show D.py (.tup [.int p.1, .int p.2]) :: D.pys (pD ps) = _
    rw [pys_p ps]
    rfl
theorem lay_p : ∀ ps : List (Int × Int), PyData.canLayAll0 (pY ps) = true
  | [] => rfl
  | p :: ps => by
    show (PyData.canLay0 (.tuple [.int p.1, .int p.2]) && PyData.canLayAll0 (pY ps)) = true
    rw [lay_p ps]
    rfl
theorem depth_p : ∀ ps : List (Int × Int), PyData.depthAll (pY ps) ≤ 1
  | [] => by decide
  | p :: ps => by
    show max (PyData.depth (.tuple [.int p.1, .int p.2])) (PyData.depthAll (pY ps)) ≤ 1
    exact Nat.max_le.mpr ⟨Nat.le_refl 1, depth_p ps⟩
theorem shaped_p (ps : List (Int × Int)) : SeqAt.shaped (.list (pY ps)) = true := by
  unfold SeqAt.shaped
  rw [PyData.canLay0, lay_p, PyData.depth]
  have := depth_p ps
  exact Bool.and_eq_true_iff.mpr ⟨rfl, decide_eq_true (by omega)⟩
theorem any_p (k : Int × Int) : ∀ ps : List (Int × Int), ((pY ps).any fun z => PyData.eqv z (.tuple [.int k.1, .int k.2])) = decide (k ∈ ps)
  | [] => rfl
  | p :: ps => by
    show (PyData.eqv (.tuple [.int p.1, .int p.2]) (.tuple [.int k.1, .int k.2]) || (pY ps).any fun z => PyData.eqv z (.tuple [.int k.1, .int k.2])) = _
    rw [any_p k ps]
    show (((p.1 == k.1) && ((p.2 == k.2) && true)) || decide (k ∈ ps)) = _
    rw [Bool.and_true, Bool.eq_iff_iff]
    obtain ⟨a, b⟩ := p
    obtain ⟨c, d⟩ := k
    simp
    constructor
    · rintro (⟨rfl, rfl⟩ | h)
      · exact .inl ⟨rfl, rfl⟩
      · exact .inr h
    · rintro (⟨rfl, rfl⟩ | h)
      · exact .inl ⟨rfl, rfl⟩
      · exact .inr h
theorem v_inP (k : Int × Int) (ps : List (Int × Int)) : inD (.tup [.int k.1, .int k.2]) (.lst (pD ps)) = ok (.bl (decide (k ∈ ps))) := by
  unfold inD
  dsimp only
  rw [plains_p, pys_p, shaped_p]
  show (if true then ok (D.bl ((pY ps).any fun z => PyData.eqv z (.tuple [.int k.1, .int k.2]))) else none) = _
  rw [any_p]
  rfl
theorem eqvAll_p : ∀ ps qs : List (Int × Int), PyData.eqvAll (pY ps) (pY qs) = decide (ps = qs)
  | [], [] => rfl
  | [], _ :: _ => rfl
  | _ :: _, [] => rfl
  | p :: ps, q :: qs => by
    show (((p.1 == q.1) && ((p.2 == q.2) && true)) && PyData.eqvAll (pY ps) (pY qs)) = _
    rw [eqvAll_p ps qs, Bool.and_true, Bool.eq_iff_iff]
    obtain ⟨a, b⟩ := p
    obtain ⟨c, d⟩ := q
    simp [and_assoc]
theorem v_eqP (ps qs : List (Int × Int)) : eqD (.lst (pD ps)) (.lst (pD qs)) = ok (.bl (decide (ps = qs))) := by
  unfold eqD
  rw [D.plain, D.plain, plains_p, plains_p, D.py, D.py, pys_p, pys_p, shaped_p, shaped_p, PyData.eqv, eqvAll_p]
  rfl
theorem eqvAll_i : ∀ ps qs : List Int, PyData.eqvAll (ps.map PyData.int) (qs.map PyData.int) = decide (ps = qs)
  | [], [] => rfl
  | [], _ :: _ => rfl
  | _ :: _, [] => rfl
  | p :: ps, q :: qs => by
    show ((p == q) && PyData.eqvAll (ps.map PyData.int) (qs.map PyData.int)) = _
    rw [eqvAll_i ps qs, Bool.eq_iff_iff]
    simp
theorem v_eqL (ps qs : List Int) : eqD (.lst (iD ps)) (.lst (iD qs)) = ok (.bl (decide (ps = qs))) := by
  unfold eqD
  rw [D.plain, D.plain, plains_i, plains_i, D.py, D.py, pys_i, pys_i, shaped_i, shaped_i, PyData.eqv, eqvAll_i]
  rfl
theorem v_neL (ps qs : List Int) : neD (.lst (iD ps)) (.lst (iD qs)) = ok (.bl (!decide (ps = qs))) := by
  unfold neD
  rw [D.plain, D.plain, plains_i, plains_i, D.py, D.py, pys_i, pys_i, shaped_i, shaped_i, PyData.eqv, eqvAll_i]
  rfl
/-! ### texts of pairs of ints -/
theorem show_p : ∀ ps : List (Int × Int), (∀ p ∈ ps, p.1.natAbs.log2 < 1920 ∧ p.2.natAbs.log2 < 1920) → PyData.showableAll (pY ps) = true ∧ PyData.leavesShortAll 1921 (pY ps) = true
  | [], _ => ⟨rfl, rfl⟩
  | p :: ps, h => by
    obtain ⟨h1, h2⟩ := show_p ps fun q hq => h q (List.mem_cons_of_mem _ hq)
    obtain ⟨h3, h4⟩ := h p (List.mem_cons_self ..)
    have s1 : decide ((PyData.shown (.int p.1)).length ≤ 1921) = true := decide_eq_true (by rw [PyData.shown]; exact PyProof.Rows.int_text_len_1921 h3)
    have s2 : decide ((PyData.shown (.int p.2)).length ≤ 1921) = true := decide_eq_true (by rw [PyData.shown]; exact PyProof.Rows.int_text_len_1921 h4)
    constructor
    · show (((decide (p.1.natAbs.log2 < 1920)) && ((decide (p.2.natAbs.log2 < 1920)) && true)) && PyData.showableAll (pY ps)) = true
      rw [decide_eq_true h3, decide_eq_true h4, h1]
      rfl
    · show ((decide ((PyData.shown (.int p.1)).length ≤ 1921) && (decide ((PyData.shown (.int p.2)).length ≤ 1921) && true)) && PyData.leavesShortAll 1921 (pY ps)) = true
      rw [s1, s2, h2]
      rfl
theorem weight_p : ∀ ps : List (Int × Int), (∀ p ∈ ps, p.1.natAbs.log2 < 1920 ∧ p.2.natAbs.log2 < 1920) → PyData.weightAll (pY ps) ≤ 4000 * ps.length
  | [], _ => Nat.le_refl _
  | p :: ps, h => by
    have h2 := weight_p ps fun q hq => h q (List.mem_cons_of_mem _ hq)
    obtain ⟨h3, h4⟩ := h p (List.mem_cons_self ..)
    have w1 : PyData.weight (.int p.1) ≤ 1920 := by
      rw [PyData.weight]
      split <;> omega
    have w2 : PyData.weight (.int p.2) ≤ 1920 := by
      rw [PyData.weight]
      split <;> omega
    show (PyData.weight (.int p.1) + 1 + (PyData.weight (.int p.2) + 1 + 0)) + 1 + PyData.weightAll (pY ps) ≤ _
    rw [List.length_cons]
    omega
theorem v_reprP (ps : List (Int × Int)) (h : ∀ p ∈ ps, p.1.natAbs.log2 < 1920 ∧ p.2.natAbs.log2 < 1920) (hl : ps.length ≤ 2) : reprN [.lst (pD ps)] = ok (.str (D.py (.lst (pD ps))).shown) := by
  obtain ⟨h1, h2⟩ := show_p ps h
  have h3 := weight_p ps h
  have h4 := depth_p ps
  have h5 := PyData.shown_le 1921 (by decide) (.list (pY ps)) h2
  rw [PyData.weight] at h5
  have h6 : (1921 + 2) * PyData.weightAll (pY ps) ≤ 1923 * 8000 := Nat.mul_le_mul (by omega) (by omega)
  unfold reprN
  dsimp only
  rw [if_pos]
  rw [D.py, pys_p]
  refine ⟨plains_p ps, h1, ?_, ?_⟩
  · rw [PyData.depth]
    omega
  · show _ ≤ 2 ^ 24
    omega
/-! ### loops -/
theorem while_end {c : S → M (Bool × S)} {F : S → M Out} {s s1 : S} (h : c s = ok (false, s1)) : sWhile c F s = ok (.nx s1) := by
  refine sWhile_of (n := 1) ?_
  rw [whileN, h, bd_ok']
  rfl
theorem while_step {c : S → M (Bool × S)} {F : S → M Out} {s s1 s2 : S} {o : Out} (h : c s = ok (true, s1)) (h2 : F s1 = ok (.nx s2)) (h3 : sWhile c F s2 = ok o) : sWhile c F s = ok o := by
  rcases of_sWhile h3 with e | ⟨n, o2, e, hn⟩
  · cases e
  · cases e
    refine sWhile_of (n := n + 1) ?_
    rw [whileN, h, bd_ok']
    show bd (F s1) _ = _
    rw [h2, bd_ok']
    exact hn
theorem while_go {c : S → M (Bool × S)} {F : S → M Out} {s s2 : S} {o : Out} (h : c s = ok (true, s)) (h2 : F s = ok (.nx s2)) (h3 : sWhile c F s2 = ok o) : sWhile c F s = ok o := while_step h h2 h3
theorem while_stop {c : S → M (Bool × S)} {F : S → M Out} {s : S} (h : c s = ok (false, s)) : sWhile c F s = ok (.nx s) := while_end h
theorem forL_nil {T : D → S → M S} {F : S → M Out} {s : S} : forL T F [] s = ok (.nx s) := rfl
theorem forL_cons {T : D → S → M S} {F : S → M Out} {d : D} {ds : List D} {s s1 s2 : S} (h1 : T d s = ok s1) (h2 : F s1 = ok (.nx s2)) : forL T F (d :: ds) s = forL T F ds s2 := by
  rw [forL, h1, bd_ok', h2, bd_ok']
/-- a loop by an invariant -/
theorem forL_inv {T : D → S → M S} {F : S → M Out} (P : Nat → S → Prop) : ∀ (ds : List D) (k : Nat) (s : S), P k s → (∀ i d s, ds[i]? = some d → P (k + i) s → ∃ s1 s2, T d s = ok s1 ∧ F s1 = ok (.nx s2) ∧ P (k + i + 1) s2) → ∃ s', forL T F ds s = ok (.nx s') ∧ P (k + ds.length) s'
  | [], k, s, h, _ => ⟨s, rfl, h⟩
  | d :: ds, k, s, h, step => by
    obtain ⟨s1, s2, h1, h2, h3⟩ := step 0 d s rfl h
    obtain ⟨s', e, p⟩ := forL_inv P ds (k + 1) s2 h3 fun i d' s' e q => by
      have := step (i + 1) d' s' (by simpa using e) (by rw [show k + (i + 1) = k + 1 + i by omega]; exact q)
      rw [show k + (i + 1) + 1 = k + 1 + i + 1 by omega] at this
      exact this
    refine ⟨s', by rw [forL_cons h1 h2]; exact e, ?_⟩
    rw [List.length_cons, show k + (ds.length + 1) = k + 1 + ds.length by omega]
    exact p
/-- a comprehension whose turns find the same state -/
theorem compL_map {vs : List Nat} {T : D → S → M S} {ft : S → M (Bool × S)} {fe : S → M (D × S)} (s0 : S) (g : D → Option D) : ∀ ds : List D,
    (∀ d ∈ ds, (g d = none ∧ ∃ s1 s2, T d s0 = ok s1 ∧ ft s1 = ok (false, s2) ∧ wipeS s2 vs = s0) ∨ ∃ y s1 s2 s3, g d = some y ∧ T d s0 = ok s1 ∧ ft s1 = ok (true, s2) ∧ fe s2 = ok (y, s3) ∧ wipeS s3 vs = s0) → compL vs T ft fe ds s0 = ok (ds.filterMap g, s0)
  | [], _ => rfl
  | d :: ds, h => by
    have ih := compL_map s0 g ds fun d' hd => h d' (List.mem_cons_of_mem _ hd)
    rcases h d (List.mem_cons_self ..) with ⟨e, s1, s2, h1, h2, h3⟩ | ⟨y, s1, s2, s3, e, h1, h2, h3, h4⟩
    · rw [compL, h1, bd_ok', h2, bd_ok', List.filterMap_cons, e]
      show compL vs T ft fe ds (wipeS s2 vs) = _
      rw [h3]
      exact ih
    · rw [compL, h1, bd_ok', h2, bd_ok', List.filterMap_cons, e]
      show bd (fe s2) _ = _
      rw [h3, bd_ok']
      show bd (compL vs T ft fe ds (wipeS s3 vs)) _ = _
      rw [h4, ih]
      rfl
end Dt
namespace Dt
open L2 PySem PySem.Spec PyProof.Rows
/-! ### texts of nested lists of ints, bools, None -/
mutual
def D.rok : D → Bool
  | .non => true
  | .bl _ => true
  | .int i => decide
        (i.natAbs.log2 < 1920)
  | .lst xs => D.roks xs
  | .tup xs => D.roks xs
  | _ => false
def D.roks : List D → Bool
  | [] => true
  | x :: xs => D.rok x && D.roks xs
end
mutual
def D.blk : D → Nat
  | .lst xs => D.blks xs
  | .tup xs => D.blks xs
  | _ => 0
def D.blks : List D → Nat
  | [] => 0
  | x :: xs => D.blk x + 1 + D.blks xs
end
mutual
def D.dep : D → Nat
  | .lst xs => D.deps xs + 1
  | .tup xs => D.deps xs + 1
  | _ => 0
def D.deps : List D → Nat
  | [] => 0
  | x :: xs => max (D.dep x) (D.deps xs)
end
mutual
theorem rok_all : ∀ d : D, d.rok = true → d.plain = true ∧ d.py.showable = true ∧ PyData.leavesShort 1921 d.py = true ∧ d.py.bulk = d.blk ∧ d.py.depth = d.dep
  | .non, _ => ⟨rfl, rfl, rfl, rfl, rfl⟩
  | .bl _, _ => ⟨rfl, rfl, rfl, rfl, rfl⟩
  | .int i, h => by
    have h3 : i.natAbs.log2 < 1920 := of_decide_eq_true h
    refine ⟨rfl, ?_, ?_, rfl, rfl⟩
    · show decide (i.natAbs.log2 < 1920) = true
      exact h
    · show decide ((PyData.shown (.int i)).length ≤ 1921) = true
      exact decide_eq_true (by rw [PyData.shown]; exact PyProof.Rows.int_text_len_1921 h3)
  | .str _, h => by cases h
  | .lst xs, h => by
    obtain ⟨h1, h2, h3, h4, h5⟩ := roks_all xs h
    rw [D.plain, D.py]
    refine ⟨h1, h2, h3, ?_, ?_⟩
    · rw [PyData.bulk, h4, D.blk]
    · rw [PyData.depth, h5, D.dep]
  | .tup xs, h => by
    obtain ⟨h1, h2, h3, h4, h5⟩ := roks_all xs h
    rw [D.plain, D.py]
    refine ⟨h1, h2, h3, ?_, ?_⟩
    · rw [PyData.bulk, h4, D.blk]
    · rw [PyData.depth, h5, D.dep]
  | .obj _ _, h => by cases h
  | .dic _ _, h => by cases h
theorem roks_all : ∀ ds : List D, D.roks ds = true → D.plains ds = true ∧ PyData.showableAll (D.pys ds) = true ∧ PyData.leavesShortAll 1921 (D.pys ds) = true ∧ PyData.bulkAll (D.pys ds) = D.blks ds ∧ PyData.depthAll (D.pys ds) = D.deps ds
  | [], _ => ⟨rfl, rfl, rfl, rfl, rfl⟩
  | d :: ds, h => by
    rw [D.roks] at h
    obtain ⟨ha, hb⟩ := Bool.and_eq_true_iff.mp h
    obtain ⟨a1, a2, a3, a4, a5⟩ := rok_all d ha
    obtain ⟨b1, b2, b3, b4, b5⟩ := roks_all ds hb
    rw [D.plains, D.pys]
    refine ⟨by rw [a1, b1]; rfl, ?_, ?_, ?_, ?_⟩
    · rw [PyData.showableAll, a2, b2]; rfl
    · rw [PyData.leavesShortAll, a3, b3]; rfl
    · rw [PyData.bulkAll, a4, b4, D.blks]
    · rw [PyData.depthAll, a5, b5, D.deps]
end
theorem repr_lst {xs : List D} (h : D.roks xs = true) (hb : D.blks xs ≤ 8000) (hd : D.deps xs ≤ 59) : reprN [.lst xs] = ok (.str (D.py (.lst xs)).shown) := by
  obtain ⟨h1, h2, h3, h4, h5⟩ := roks_all xs h
  have h6 := PyData.shown_le_bulk 1921 (by decide) (.list (D.pys xs)) h3
  rw [PyData.bulk, h4] at h6
  unfold reprN
  dsimp only
  rw [if_pos]
  rw [D.py]
  refine ⟨h1, h2, ?_, ?_⟩
  · rw [PyData.depth, h5]
    omega
  · have : (1921 + 2) * D.blks xs ≤ 1923 * 8000 := Nat.mul_le_mul (by omega) hb
    show _ ≤ 2 ^ 24
    omega
/-- .. of two lists that are one -/
theorem roks_append : ∀ xs ys : List D, D.roks (xs ++ ys) = (D.roks xs && D.roks ys)
  | [], _ => rfl
  | x :: xs, ys => by
    rw [List.cons_append, D.roks, D.roks, roks_append xs ys, Bool.and_assoc]
theorem roks_i : ∀ ns : List Int, (∀ n ∈ ns, n.natAbs.log2 < 1920) → D.roks (iD ns) = true
  | [], _ => rfl
  | n :: ns, h => by
    show (decide (n.natAbs.log2 < 1920) && D.roks (iD ns)) = true
    rw [decide_eq_true (h n (List.mem_cons_self ..)), roks_i ns fun m hm => h m (List.mem_cons_of_mem _ hm)]
    rfl
theorem blks_i : ∀ ns : List Int, D.blks (iD ns) = ns.length
  | [] => rfl
  | n :: ns => by
    show 0 + 1 + D.blks (iD ns) = ns.length + 1
    rw [blks_i ns]
    omega
theorem deps_i : ∀ ns : List Int, D.deps (iD ns) = 0
  | [] => rfl
  | n :: ns => by
    show max 0 (D.deps (iD ns)) = 0
    rw [deps_i ns]
    rfl
theorem v_eqSS (x : Str) : eqS (.str x) (.str x) = ok (.bl true) := by
  rw [v_eqS, decide_eq_true rfl]
theorem v_neSS (x : Str) : neS (.str x) (.str x) = ok (.bl false) := by
  rw [v_neS, decide_eq_true rfl]
  rfl
/-! ### comprehensions -/
theorem comp_allD (v : Nat) (fe : S → M (D × S)) (g : D → D) (s0 : S) (hs : ∀ x, (s0.set v x).set v .un = s0) : ∀ ds : List D, (∀ d ∈ ds, fe (s0.set v (.val d)) = ok (g d, s0.set v (.val d))) → compL [v] (gNm v) tTrue fe ds s0 = ok (ds.map g, s0)
  | [], _ => rfl
  | d :: ds, hf => by
    have ih := comp_allD v fe g s0 hs ds fun k hk => hf k (List.mem_cons_of_mem _ hk)
    have e := hf d (List.mem_cons_self ..)
    show bd (ok (s0.set v (.val d))) _ = _
    rw [bd_ok']
    show bd (fe (s0.set v (.val d))) _ = _
    rw [e, bd_ok']
    show bd (compL [v] (gNm v) tTrue fe ds ((s0.set v (.val d)).set v .un)) _ = _
    rw [hs, ih]
    rfl
/-- a comprehension over things told by a list -/
theorem comp_allF {α : Type} (v : Nat) (fe : S → M (D × S)) (x g : α → D) (s0 : S) (hs : ∀ x, (s0.set v x).set v .un = s0) : ∀ as : List α, (∀ a ∈ as, fe (s0.set v (.val (x a))) = ok (g a, s0.set v (.val (x a)))) → compL [v] (gNm v) tTrue fe (as.map x) s0 = ok (as.map g, s0)
  | [], _ => rfl
  | a :: as, hf => by
    have ih := comp_allF v fe x g s0 hs as fun k hk => hf k (List.mem_cons_of_mem _ hk)
    have e := hf a (List.mem_cons_self ..)
    show bd (ok (s0.set v (.val (x a)))) _ = _
    rw [bd_ok']
    show bd (fe (s0.set v (.val (x a)))) _ = _
    rw [e, bd_ok']
    show bd (compL [v] (gNm v) tTrue fe (as.map x) ((s0.set v (.val (x a))).set v .un)) _ = _
    rw [hs, ih]
    rfl
end Dt
namespace Dt
open L2 PySem PySem.Spec PyProof.Rows
/-! ### instances: their fields -/
/-- the j-th field of an instance of the class c -/
def fldD (c : Str) (j : Nat) : D → M D := fun d => match d with
  | .obj c' ds => if c' = c then (match ds[j]? with | some d => ok d | none => none) else none
  | _ => none
def dFld (c : Str) (j : Nat) (f : S → M (D × S)) : S → M (D × S) := fun s => bd (f s) fun p => bd (fldD c j p.1) fun d => ok (d, p.2)
def dOwnFld (i : Nat) (c : Str) (j : Nat) : S → M (D × S) := fun s => match ownD s[i]? with
  | some d => bd (fldD c j d) fun r => ok (r, s)
  | none => none
def setF (ds : List D) (j : Nat) (d : D) : List D := if j < ds.length then ds.set j d else ds ++ [d]
def sFldPut (i : Nat) (c : Str) (j : Nat) (f : S → M (D × S)) : S → M Out := fun s => bd (f s) fun p => match ownD p.2[i]? with
  | some (.obj c' ds) => if c' = c ∧ j ≤ ds.length ∧ ds.length < 1000 then ok (.nx (putD p.2 i (.obj c (setF ds j p.1)))) else none
  | _ => none
/-- what is known of a class -/
structure ClsD (K : PySem.W.Frag) (cl : Cl) (c : Str) (C : Addr) (names : List Str) : Prop where
  at_ : cl c = some (C, names)
  cls : Cls K C
  no : ∀ f ∈ names, NoAttr K C f
  nd : names.Nodup
theorem lookup_at {α β : Type} [BEq α] [LawfulBEq α] : ∀ (fs : List (α × β)) (j : Nat) (f : α) (v : β), (fs.map (·.1)).Nodup → fs[j]? = some (f, v) → fs.lookup f = some v
  | [], j, f, v, _, e => by simp at e
  | (g, x) :: r, 0, f, v, _, e => by
    simp at e
    obtain ⟨rfl, rfl⟩ := e
    simp [List.lookup]
  | (g, x) :: r, j + 1, f, v, n, e => by
    rw [List.map_cons] at n
    obtain ⟨n1, n2⟩ := List.nodup_cons.mp n
    have e' : r[j]? = some (f, v) := by simpa using e
    have hm : f ∈ r.map (·.1) := List.mem_map.mpr ⟨_, List.mem_of_getElem? e', rfl⟩
    have hne : (f == g) = false := beq_eq_false_iff_ne.mpr fun z => n1 (by rw [← z]; exact hm)
    rw [List.lookup, hne]
    exact lookup_at r j f v n2 e'
theorem putF_at {f : Str} {v : V} : ∀ (fs : List (Str × V)) (j : Nat) (u : V), (fs.map (·.1)).Nodup → fs[j]? = some (f, u) → putF f v fs = fs.set j (f, v)
  | [], j, u, _, e => by simp at e
  | (g, x) :: r, 0, u, _, e => by
    simp at e
    obtain ⟨rfl, rfl⟩ := e
    simp [putF]
  | (g, x) :: r, j + 1, u, n, e => by
    rw [List.map_cons] at n
    obtain ⟨n1, n2⟩ := List.nodup_cons.mp n
    have e' : r[j]? = some (f, u) := by simpa using e
    have hm : f ∈ r.map (·.1) := List.mem_map.mpr ⟨_, List.mem_of_getElem? e', rfl⟩
    have hne : g ≠ f := fun z => n1 (by rw [z]; exact hm)
    rw [putF, if_neg hne, putF_at r j u n2 e', List.set_cons_succ]
theorem putF_end {f : Str} {v : V} : ∀ (fs : List (Str × V)), f ∉ fs.map (·.1) → putF f v fs = fs ++ [(f, v)]
  | [], _ => rfl
  | (g, x) :: r, h => by
    have hne : g ≠ f := fun z => h (by simp [z])
    rw [putF, if_neg hne, putF_end r (fun z => h (by simp at z ⊢; exact .inr z)), List.cons_append]
section
variable {K : PySem.W.Frag} {cl : Cl} {H : Hp} {c : Str} {C : Addr} {names : List Str} {fvs : List (Str × V)} {ds : List D} {j : Nat} {f : Str} {d : D}
theorem fvs_len (n : fvs.map (·.1) = names.take ds.length) (r : RpA K cl H (fvs.map (·.2)) ds) : fvs.length = ds.length := by
  have := r.len
  simpa using this
theorem fvs_nd (hn : names.Nodup) (n : fvs.map (·.1) = names.take ds.length) : (fvs.map (·.1)).Nodup := by
  rw [n]
  exact (List.take_sublist _ _).nodup hn
theorem fvs_at (hn : names.Nodup) (n : fvs.map (·.1) = names.take ds.length) (r : RpA K cl H (fvs.map (·.2)) ds) (hj : names[j]? = some f) (hd : ds[j]? = some d) : ∃ v, fvs[j]? = some (f, v) ∧ fvs.lookup f = some v ∧ Rp K cl H v d := by
  have hlt : j < ds.length := (List.getElem?_eq_some_iff.mp hd).1
  obtain ⟨v, h1, h2⟩ := r.get j hd
  have h3 : (fvs.map (·.1))[j]? = some f := by
    rw [n, List.getElem?_take_of_lt hlt]
    exact hj
  rw [List.getElem?_map] at h1 h3
  cases q : fvs[j]? with
  | none => rw [q] at h1; cases h1
  | some p =>
    rw [q] at h1 h3
    simp at h1 h3
    obtain ⟨p1, p2⟩ := p
    dsimp only at h1 h3
    subst h1 h3
    exact ⟨_, rfl, lookup_at fvs j _ _ (fvs_nd hn n) q, h2⟩
/-- a field is written -/
theorem fvs_put {v : V} (hn : names.Nodup) (n : fvs.map (·.1) = names.take ds.length) (r : RpA K cl H (fvs.map (·.2)) ds) (hj : names[j]? = some f) (hl : j ≤ ds.length) (rv : Rp K cl H v d) :
    (putF f v fvs).map (·.1) = names.take (setF ds j d).length ∧ RpA K cl H ((putF f v fvs).map (·.2)) (setF ds j d) := by
  have len := fvs_len n r
  unfold setF
  by_cases hlt : j < ds.length
  · obtain ⟨u, h1, _, _⟩ := fvs_at hn n r hj (List.getElem?_eq_getElem hlt)
    rw [if_pos hlt, putF_at fvs j u (fvs_nd hn n) h1, List.map_set, List.map_set, List.length_set]
    refine ⟨?_, r.set j rv⟩
    rw [← n]
    have h3 : (fvs.map (·.1))[j]? = some f := by rw [List.getElem?_map, h1]; rfl
    have hlt' : j < (fvs.map (·.1)).length := (List.getElem?_eq_some_iff.mp h3).1
    have := (List.getElem?_eq_some_iff.mp h3).2
    conv => lhs; rw [← this]
    exact List.set_getElem_self hlt'
  · have hj2 : j = ds.length := by omega
    subst hj2
    have hni : f ∉ fvs.map (·.1) := by
      rw [n]
      intro z
      obtain ⟨i, hi, e⟩ := List.mem_iff_getElem.mp z
      have hi' : i < ds.length := by
        have := hi
        rw [List.length_take] at this
        omega
      rw [List.getElem_take] at e
      have h4 : names[i]? = some f := by
        rw [← e]
        exact List.getElem?_eq_getElem _
      have hi2 := (List.getElem?_eq_some_iff.mp h4).1
      have hj3 := (List.getElem?_eq_some_iff.mp hj).1
      have hinj := (List.getElem?_inj hi2 hn).mp (h4.trans hj.symm)
      omega
    rw [if_neg hlt, putF_end fvs hni, List.map_append, List.map_append, List.length_append, n]
    refine ⟨?_, r.append (.cons rv .nil)⟩
    show names.take ds.length ++ [f] = names.take (ds.length + 1)
    rw [List.take_succ, hj]
    rfl
end
section
variable {X : Cx} {cl : Cl} {pos : Pos} {w : Wf} {L : List Addr} {sd : S} {σ : L2.St} {H : Hp} {fe : S → M (D × S)} {e : Expr} {c f : Str} {C : Addr} {names : List Str} {j : Nat}
/-- e.f -/
theorem d_fld (k : ClsD X.K cl c C names) (he : PE X e (TEof X.K cl fe)) (hj : names[j]? = some f := by rfl) (hab : attributeBase e f X.env (eval e X.env) = eval e X.env := by rfl) : PE X (.Attribute e f pos) (TEof X.K cl (dFld c j fe)) := by
  refine iE (pe_fld he hab) ?_
  rintro σ H Q ⟨w, L, sd, W, h0⟩
  refine ⟨w, L, sd, W, PostE.bd botE h0 fun r s1 h v H1 st1 W1 rr => ?_⟩
  cases r with
  | obj c' ds =>
    dsimp only [fldD] at h
    split at h
    · next ec =>
      subst ec
      split at h
      · next d hd =>
        cases rr with
        | obj k0 e0 n0 r0 =>
          rw [k.at_] at k0
          cases k0
          obtain ⟨u, h1, h2, h3⟩ := fvs_at k.nd n0 r0 hj hd
          exact ⟨_, _, _, _, u, rfl, (hide_some.mp e0).2, k.cls, k.no f (List.mem_of_getElem? hj), h2, h u H1 st1 W1 h3⟩
      · exact h.elim
    · exact h.elim
  | _ => exact h.elim
/-- self.f, self of the def's own -/
theorem d_ownFld (i : Nat) {x : Str} {p0 : Pos} (k : ClsD X.K cl c C names) (hj : names[j]? = some f := by rfl) (hN : X.N[i]? = some x := by rfl) (hv : Vis X.env.scope x := by first | exact Or.inl rfl | exact Or.inr (Or.inl rfl) | exact Or.inr (Or.inr rfl))
    (hd : (x == ("__debug__" : Str)) = false := by decide) (hcd : (x == ("__classdict__" : Str)) = false := by decide) (hab : attributeBase (.Name x p0) f X.env (eval (.Name x p0) X.env) = eval (.Name x p0) X.env := by rfl) :
    PE X (.Attribute (.Name x p0) f pos) (TEof X.K cl (dOwnFld i c j)) := by
  refine iE (pe_fld (pe_var hN hv hd hcd) hab) ?_
  rintro σ H Q ⟨w, L, sd, W, h⟩
  unfold dOwnFld at h
  split at h
  · next d ed =>
    obtain ⟨a, h1, h2, h3⟩ := W.atD ed
    refine ⟨.ref a, h1, ?_⟩
    cases d with
    | obj c' ds =>
      dsimp only [fldD] at h
      split at h
      · next ec =>
        subst ec
        split at h
        · next d hd =>
          obtain ⟨C0, ns0, dx, fvs, k0, e0, n0, r0⟩ := h3
          rw [k.at_] at k0
          cases k0
          obtain ⟨u, g1, g2, g3⟩ := fvs_at k.nd n0 r0 hj hd
          exact ⟨_, _, _, _, u, rfl, e0, k.cls, k.no f (List.mem_of_getElem? hj), g2, h u H .refl W g3⟩
        · exact h.elim
      · exact h.elim
    | _ => exact h.elim
  · exact h.elim
/-- self.f = e -/
theorem s_fldPut (i : Nat) {x : Str} {p0 pos' : Pos} (k : ClsD X.K cl c C names) (he : PE X e (TEof X.K cl fe)) (hj : names[j]? = some f := by rfl) (hN : X.N[i]? = some x := by rfl)
    (hv : Vis X.env.scope x := by first | exact Or.inl rfl | exact Or.inr (Or.inl rfl) | exact Or.inr (Or.inr rfl)) (hd : (x == ("__debug__" : Str)) = false := by decide) (hcd : (x == ("__classdict__" : Str)) = false := by decide)
    (hs : swapsWith e (some (.Attribute (.Name x p0) f pos')) pos.line X.env = pure false := by rfl) : PS X (.Assign [.Attribute (.Name x p0) f pos'] e pos) (TSof X.K cl [] (sFldPut i c j fe)) := by
  refine iS (ps_fld (pe_var hN hv hd hcd) he hs) ?_
  rintro E σ H ⟨w, L, sd, W, h⟩
  refine ⟨w, L, sd, W, PostE.bd botS h fun r s1 h v H1 st1 W1 rr => ?_⟩
  dsimp only at h
  split at h
  · next c' ds ed =>
    obtain ⟨a, h1, h2, h3⟩ := W1.atD ed
    refine ⟨.ref a, h1, ?_⟩
    split at h
    · next hc =>
      obtain ⟨rfl, hl, hz⟩ := hc
      have hal := h3.some
      obtain ⟨C0, ns0, dx, fvs, k0, e0, n0, r0⟩ := h3
      rw [k.at_] at k0
      cases k0
      obtain ⟨g1, g2⟩ := fvs_put (d := r) k.nd n0 r0 hj hl rr
      have hin : a ∈ L ++ w.O0 := by
        rcases h2 with z | z
        · (exact List.mem_append_left _ z)
        · exact List.mem_append_right _ (W.sub a z.2)
      obtain ⟨W2, st2⟩ := W1.wrote (H' := upd H1 a (.ins C dx (putF f v fvs))) (d1 := .obj c' (setF ds j r)) ed h1 h2 hal (fun b o n q => by rw [upd_ne n]; exact q) ⟨C, names, dx, _, k.at_, upd_same, g1, by rw [hide_in hin]; exact g2⟩
      refine ⟨a, C, dx, fvs, rfl, e0, k.cls, k.no f (List.mem_of_getElem? hj), ?_, h L σ _ (st1.trans st2) W2 .refl⟩
      rw [fvs_len n0 r0]
      exact hz
    · exact h.elim
  · exact h.elim
end
end Dt
namespace Dt
open L2 PySem PySem.Spec PyProof.Rows
/-! ### C(..): a new instance -/
def dMake (c : Str) (n : Nat) (g : D → List D → M (D × D)) (dd : List D) (fr : S → M (List D × S)) : S → M (D × S) := fun s => bd (fr s) fun p =>
  if (p.1 ++ dd).length + 1 = n then bd (g (.obj c []) (p.1 ++ dd)) fun q => match q.1 with
    | .non => ok (q.2, p.2)
    | _ => none
  else none
section
variable {X : Cx} {CX : CXT} {k n : Nat} {f C : Addr} {fd : FuncData} {ps : List Str} {sp : Sp} {dvs : List V} {ds : List Value} {dd : List D} {E : XK} {x c : Str} {p pos : Pos} {e : Expr} {es : List Expr} {t : TA} {cl : Cl} {fr : S → M (List D × S)} {g : D → List D → M (D × D)} {names : List Str}
theorem guards_make {A : Around} {vs : List Value} {kw : List (Str × Value)} (h : A.guards = some []) : (A.under (.builtin "type.__call__" ⟨vs, kw⟩)).guards = some [] := by
  show pushGuards (Code.guards (.builtin "type.__call__" ⟨vs, kw⟩)) A.guards = some []
  have e : Code.guards (.builtin "type.__call__" ⟨vs, kw⟩) = [] := by simp [Code.guards, Code.isGuard, guardIds]
  rw [e, h] <;> rfl
theorem run_makeG {pins : List (Addr × Obj)} {σ : L2.St} {H : Hp} {s : Shared} {Q : VK} {us : List Value} {kw : List (Str × Value)} {us2 : List Value} {vs2 : List V} (M : Mk X.K C f) (F : FnG X.prog X.w X.K X.mg X.base CX k f fd ps sp) (hgd : X.A.guards = some []) (hr : Room (k + 1) X.A) (hx : Passes CX X E) (I : Inv X pins σ H s)
    (hb : ∀ (s1 : Shared) (a : Addr), X.K.In s1.heap → BindsTo s1 fd ⟨.ref a :: us, kw⟩ (ps.zip (.ref a :: us2))) (r : Vals vs2 us2)
    (h : ∀ x dx, H x = none → H dx = none → dx ≠ x → sp (.ref x :: vs2) (upd (upd H dx (.own x)) x (.ins C dx [])) (fun v H2 => v = .non ∧ Q (.ref x) H2) E) :
    wpAny (model X.prog X.w) X.A (call (.ref C) us kw) (EP X pins σ Q) X.xe s := by
  have h1 := h (s.heap.objs.size + 1) s.heap.objs.size (I.hok.fresh (Nat.le_succ _)) (I.hok.fresh (Nat.le_refl _)) (Nat.ne_of_lt (Nat.lt_succ_self _))
  (have I2 := Inv.made (C := C) I)
  have r2 : Vals (V.ref (s.heap.objs.size + 1) :: vs2) (Value.ref (s.heap.objs.size + 1) :: us2) := .cons rfl r
  have go := F.go _ X.stack _ _ _ _ _ _ E (guards_make (vs := .ref C :: us) (kw := kw) hgd) (hr.make C us kw) (I2.env0.make C us kw) (hb _ _ I2.kIn) r2 h1
  refine wpAny_call (make_map (f := f) I.kIn M.makes M.init (beq_iff_eq.mp M.fn) (codeAny_mono go fun r s' hq => ?_))
  have q := ret_of hx I2 r s' hq
  match r, q with
  | .error e, q => exact q
  | .ok (.ret u), q =>
    obtain ⟨v, H', I3, rv, ev, q3⟩ := q
    subst ev
    (exact ⟨rv, ⟨V.ref (s.heap.objs.size + 1), H', I3, rfl, q3⟩⟩)
/-- C(e, ..) -/
theorem pe_makeG (M : Mk X.K C f) (F : FnG X.prog X.w X.K X.mg X.base CX k f fd ps sp) (hgd : X.A.guards = some []) (hr : Room (k + 1) X.A) (hm : X.mg x = some (.ref C)) (hb : Binds X.K fd ps ds) (hd : Vals dvs ds) (hx : Passes CX X E)
    (ha : PA X (e :: es) t) (hg : Gl X x := by rfl) (hdb : (x == ("__debug__" : Str)) = false := by decide) (he : starEach (e :: es) X.env = (false, eval e X.env) :: starEach es X.env := by rfl) (hpl : (backTo pos (starEach es X.env)).any (·.1) = false := by rfl) :
    PE X (.Call
          (.Name x p) (e :: es) [] pos) (tMake C sp dvs E t) := by
  constructor
  intro pins s σ H Q I h
  refine wpAny_Call_Name_kw (ld_glob I hg hm (PySem.W.callWith_K (h₀ := X.base) I.ok.mod.kin M.kp (thn (ha.run pos pins s σ H _ I h) ?_) he hpl) hdb)
  rintro us s1 ⟨vs, H1, I1, r, q⟩
  have hl : ∀ a : Addr, ((.ref a :: us) ++ ds).length = ps.length := fun a => by
    have h2 := q (s1.heap.objs.size + 1) s1.heap.objs.size (I1.hok.fresh (Nat.le_succ _)) (I1.hok.fresh (Nat.le_refl _)) (Nat.ne_of_lt (Nat.lt_succ_self _))
    have e1 := F.len _ _ _ _ h2
    have e2 := (r.append hd).length
    rw [List.length_cons] at e1
    rw [List.cons_append, List.length_cons]
    omega
  exact ⟨I1.kIn, run_makeG (us2 := us ++ ds) (vs2 := vs ++ dvs) M F hgd hr hx I1 (fun s2 a kin => hb s2 (.ref a :: us) kin (hl a)) (r.append hd) q⟩
/-- what the constructor's promise asks, by the data -/
theorem make_readG (kc : ClsD X.K cl c C names) (hdd : ∀ H : Hp, RpA X.K cl H dvs dd) : ∀ σ H Q, TFof X.K cl (dMake c n g dd fr) σ H Q → tMake C (spI X.K cl n g) dvs E0 (TAof X.K cl fr) σ H Q := by
  rintro σ H Q ⟨w, L, sd, W, h⟩
  refine ⟨w, L, sd, W, PostA.bd botF h fun rs s1 h vs H1 st1 W1 rr => ?_⟩
  intro y dx ny ndx hne
  dsimp only at h
  split at h
  · next c1 =>
    have rr2 := rr.append (hdd (hide (L ++ w.O0) H1))
    have nyO : y ∉ L ++ w.O0 := W1.new_ne ny
    have ndO : dx ∉ L ++ w.O0 := W1.new_ne ndx
    have sm1 : Same H1 (upd (upd H1 dx (.own y)) y (.ins C dx [])) := fun b o z => by
      rw [upd_ne (ne_of_none z ny), upd_ne (ne_of_none z ndx)]
      exact z
    have sm2 : Same (hide (L ++ w.O0) H1) (hide (y :: (L ++ w.O0)) (upd (upd H1 dx (.own y)) y (.ins C dx []))) := fun b o z => by
      obtain ⟨z1, z2⟩ := hide_some.mp z
      refine hide_some.mpr ⟨fun q => ?_, sm1 b o z2⟩
      rcases List.mem_cons.mp q with q | q
      · rw [q, ny] at z2
        cases z2
      · exact z1 q
    refine ⟨?_, y :: (L ++ w.O0), y, .obj c [], vs ++ dvs, rs ++ dd, rfl, fun b hb => ?_, List.mem_cons_self, ⟨C, names, dx, [], kc.at_, upd_same, by simp, .nil⟩, rr2.mono sm2, ?_⟩
    · have := rr2.len
      simp only [List.length_cons] at this ⊢
      omega
    · (rcases List.mem_cons.mp hb with rfl | hb)
      · rw [upd_same]; simp
      · cases q : H1 b with
        | none => exact absurd q (W1.alive b hb)
        | some o => rw [sm1 b o q]; simp
    · generalize g (.obj c []) (rs ++ dd) = mm at h
      match mm, h with
      | none, h => exact h.elim
      | some (.ex _), h => exact h.elim
      | some (.ok (r, d')), h =>
        intro v H' kp ho rv
        dsimp only [bd] at h
        cases r with
        | non =>
          cases rv
          refine ⟨rfl, ?_⟩
          have sm3 : Same H1 H' := fun b o z => kp b o (ne_of_none z ny) (sm1 b o z)
          have st2 : Step w L H1 (y :: L) H' := ⟨fun b o _ _ e => sm3 b o e, (Step.of_same (w := w) (L := L) sm3).alv, fun a ha => by
            (rcases List.mem_cons.mp ha with rfl | ha)
            · exact .inr ny
            · exact .inl ha⟩
          exact h y H' (st1.trans st2) nyO (W1.ext sm3) (W1.made sm3 ny ho.some) ho
        | _ => exact h.elim
  · exact h.elim
/-- C(e, ..) as data -/
theorem f_make (kc : ClsD X.K cl c C names) (M : Mk X.K C f) (F : FnG X.prog X.w X.K X.mg X.base CX0 k f fd ps (spI X.K cl n g)) (hgd : X.A.guards = some []) (hr : Room (k + 1) X.A) (hm : X.mg x = some (.ref C)) (hb : Binds X.K fd ps ds) (hd : Vals dvs ds) (hdd : ∀ H : Hp, RpA X.K cl H dvs dd)
    (ha : PA X (e :: es) (TAof X.K cl fr)) (hg : Gl X x := by rfl) (hdb : (x == ("__debug__" : Str)) = false := by decide) (he : starEach (e :: es) X.env = (false, eval e X.env) :: starEach es X.env := by rfl) (hpl : (backTo pos (starEach es X.env)).any (·.1) = false := by rfl) :
    PE X (.Call (.Name x p) (e :: es) [] pos) (TFof X.K cl (dMake c n g dd fr)) := iE (pe_makeG M F hgd hr hm hb hd pass0 ha hg hdb he hpl) (make_readG kc hdd)
end
/-! ### o.m(..), o.f of an instance that is a value -/
def dMeth (c m : Str) (n : Nat) (g : FnD) (dd : List D) (fo : S → M (D × S)) (fr : S → M (List D × S)) : S → M (D × S) := fun s => bd (fo s) fun o => match o.1 with
  | .obj c' _ => if c' = c then bd (fr o.2) fun p => if (p.1 ++ dd).length + 1 = n then bd (g (o.1 :: (p.1 ++ dd))) fun r => ok (r, p.2) else none else none
  | _ => none
def dProp (c : Str) (g : FnD) (fo : S → M (D × S)) : S → M (D × S) := fun s => bd (fo s) fun o => match o.1 with
  | .obj c' _ => if c' = c then bd (g [o.1]) fun r => ok (r, o.2) else none
  | _ => none
section
variable {X : Cx} {CX : CXT} {k n : Nat} {f C pa : Addr} {fd : FuncData} {ps : List Str} {sp : Sp} {dvs : List V} {ds : List Value} {dd : List D} {E : XK} {m c : Str} {p pos apos : Pos} {e o : Expr} {es : List Expr} {ta : TE} {t : TA} {cl : Cl} {fo : S → M (D × S)} {fr : S → M (List D × S)} {g : FnD} {names : List Str}
/-- o.m(e, ..) -/
theorem pe_methG {pl : Sem Bool} (he : PE X o ta) (c : Cls X.K C) (hm : Meth X.K C m f) (F : FnG X.prog X.w X.K X.mg X.base CX k f fd ps sp) (hgd : X.A.guards = some []) (hr : Room k X.A) (hb : Binds X.K fd ps ds) (hd : Vals dvs ds) (hx : Passes CX X E) (ha : PA X (e :: es) t)
    (hst : starEach (e :: es) X.env = (false, eval e X.env) :: starEach es X.env := by rfl) (hpl
          : (backTo pos (starEach es X.env)).any (·.1) = false := by rfl)
    (ht : eval
          (.Call (.Attribute o m apos) (e :: es) [] pos) X.env = (do
      let ov ← eval o X.env
      standAt apos.atName
      let (f, first) ← holding [ov]
            (getMethod ov m pl)
      callWith pos f first
            (backTo pos (starEach (e :: es) X.env)) (backToKw pos (keywordEach [] X.env))) := by rfl) :
    PE X (.Call
          (.Attribute o m apos) (e :: es) [] pos) (tMeth C m sp dvs E ta t) := by
  constructor
  intro pins s σ H Q I h
  refine PySem.W.methodCall_KW (pl := pl) (thn (he.run pins s σ H _ I h) ?_) ht
  rintro u s1 ⟨x, H1, I1, rx, a, dx, fs, rfl, ea, l, q⟩
  (obtain rfl : u = Value.ref a := rx)
  refine getmeth_ok I1 ea c hm l (PySem.W.callWith_K (first := [.ref a]) (h₀ := X.base) I.ok.mod.kin hm.kp (thn (ha.run pos pins s1 σ H1 _ I1 q) ?_) hst hpl)
  rintro us s2 ⟨vs, H2, I2, r, q2⟩
  have rr : Vals (.ref a :: (vs ++ dvs)) (.ref a :: (us ++ ds)) := .cons rfl (r.append hd)
  have hl : ((.ref a :: us) ++ ds).length = ps.length := rr.length.symm.trans (F.len _ _ _ _ q2)
  exact ⟨I2.kIn, ran (us := .ref a :: us) hx I2 (F.go X.A X.stack s2 H2 ⟨.ref a :: us, []⟩ (.ref a :: (us ++ ds)) (.ref a :: (vs ++ dvs)) Q E hgd hr I2.env0 (hb s2 (.ref a :: us) I2.kIn hl) rr q2)⟩
/-- o.m() -/
theorem pe_methG0 {pl : Sem Bool} (he : PE X o ta) (c : Cls X.K C) (hm : Meth X.K C m f) (F : FnG X.prog X.w X.K X.mg X.base CX k f fd ps sp) (hgd : X.A.guards = some []) (hr : Room k X.A) (hb : Binds X.K fd ps ds) (hd : Vals dvs ds) (hx : Passes CX X E)
    (ht : eval
          (.Call (.Attribute o m apos) [] [] pos) X.env = (do
      let ov ← eval o X.env
      standAt apos.atName
      let (f, first) ← holding [ov]
            (getMethod ov m pl)
      callWith pos f first
            (backTo pos (starEach [] X.env)) (backToKw pos (keywordEach [] X.env))) := by rfl) :
    PE X (.Call
          (.Attribute o m apos) [] [] pos) (tMeth C m sp dvs E ta tNil) := by
  constructor
  intro pins s σ H Q I h
  refine PySem.W.methodCall_KW (pl := pl) (thn (he.run pins s σ H _ I h) ?_) ht
  rintro u s1 ⟨x, H1, I1, rx, a, dx, fs, rfl, ea, l, q⟩
  (obtain rfl : u = Value.ref a := rx)
  have q2 : sp (.ref a :: ([] ++ dvs)) H1 Q E := q
  have rr : Vals (.ref a :: ([] ++ dvs)) (.ref a :: ([] ++ ds)) := .cons rfl hd
  have hl : (([Value.ref a]) ++ ds).length = ps.length := rr.length.symm.trans (F.len _ _ _ _ q2)
  exact getmeth_ok I1 ea c hm l (PySem.W.callWith_K0 (first := [.ref a]) I1.kIn hm.kp (ran (us := [.ref a]) hx I1 (F.go X.A X.stack s1 H1 ⟨[.ref a], []⟩ (.ref a :: ds) (.ref a :: dvs) Q E hgd hr I1.env0 (hb s1 [.ref a] I1.kIn hl) rr q2)))
/-- o.f, a property -/
theorem pe_propG (he : PE X o ta) (c : Cls X.K C) (hp : PropOf X.K C m pa f) (F : FnG X.prog X.w X.K X.mg X.base CX k f fd ps sp) (hgd : X.A.guards = some []) (hr : Room (k + 1) X.A) (hb : Binds X.K fd ps []) (hx : Passes CX X.nox E)
    (hab : attributeBase o m X.env (eval o X.env) = eval o X.env := by rfl) : PE X (.Attribute o m pos) (tProp C sp [] E ta) := by
  constructor
  intro pins s σ H Q I h
  refine attr_of hab (thn (he.run pins s σ H _ I h) ?_)
  rintro u s1 ⟨x, H1, I1, rx, a, dx, fs, rfl, ea, q⟩
  (obtain rfl : u = Value.ref a := rx)
  obtain ⟨_, O, _, _, _, _⟩ := ins_get I1.hok ea
  obtain ⟨od, J, _⟩ := O.look
  (obtain ⟨rest, hrec⟩ := hp.rec_)
  have I2 := I1.tok (s1.toks + 1)
  have hl : ([Value.ref a] ++ []).length = ps.length := F.len _ _ _ _ q
  have hc
        : (PySem.W.clsIn X.K C).isSome = true := by
    (obtain ⟨cd, hc, _⟩ := PySem.W.any_some c.hd)
    rw [hc]; rfl
  refine PySem.W.get_bind I1.kIn J (PySem.W.plainGet_of (c.get m)).1 (PySem.W.findObj_data hc hp.at_ hp.get hp.tak) (PySem.W.plainGet_of (c.get m)).2 (wpAny_call (PySem.W.prop_get (s := { s1 with toks := s1.toks + 1 }) I1.kIn hrec ?_))
  refine codeAny_mono (F.go X.A.in1 X.stack { s1 with toks := s1.toks + 1 } H1 ⟨[.ref a], []⟩ [.ref a] [.ref a] Q E hgd hr.in1 I2.env0.in1 (hb _ [.ref a] I2.kIn hl) (.cons rfl .nil) q) fun r s' hq => ?_
  match r, hq with
  | .error er, hq => exact False.elim (hx pins σ H1 { s1 with toks := s1.toks + 1 } er s' (I2.wish _) hq)
  | .ok (.ret u), hq =>
    obtain ⟨v, H', I3, rv, q3⟩ := I2.after hq
    (show wpAny _ _ (handedOut u) _ _ _)
    (rw [PySem.W.handedOut_of (handed_of rv)])
    (exact wpAny_pure ⟨v, H', I3, rv, q3⟩)
  | .ok .next, hq => exact hq.elim
  | .ok .brk, hq => exact hq.elim
  | .ok .cont, hq => exact hq.elim
theorem meth_read (kc : ClsD X.K cl c C names) (hm : m ∉ names) (hdd : ∀ H : Hp, RpA X.K cl H dvs dd) : ∀ σ H Q, TEof X.K cl (dMeth c m n g dd fo fr) σ H Q → tMeth C m (spP X.K cl n g) dvs E0 (TEof X.K cl fo) (TAof X.K cl fr) σ H Q := by
  rintro σ H Q ⟨w, L, sd, W, h0⟩
  refine ⟨w, L, sd, W, PostE.bd botE h0 fun r s1 h v H1 st1 W1 rr => ?_⟩
  cases r with
  | obj c' fs =>
    dsimp only at h
    split at h
    · next ec =>
      subst ec
      cases rr with
      | obj k0 e0 n0 r0 =>
        rw [kc.at_] at k0
        cases k0
        rename_i a dx fvs
        have e1 := (hide_some.mp e0).2
        refine ⟨a, dx, fvs, rfl, e1, ?_, w, L, s1, W1, PostA.bd botE h fun rs s2 h vs H2 st2 W2 rrs => ?_⟩
        · cases q : fvs.lookup m with
          | none => rfl
          | some u =>
            refine absurd ?_ hm
            have hmem : ∀ (l : List (Str × V)) (u : V), l.lookup m = some u → m ∈ l.map (·.1) := by
              intro l
              induction l with
              | nil => intro u h; cases h
              | cons z l ih =>
                intro u h
                obtain ⟨z1, z2⟩ := z
                rw [List.lookup] at h
                split at h
                · next hb => simp [beq_iff_eq.mp hb]
                · simp only [List.map_cons, List.mem_cons]
                  exact .inr (ih u h)
            have := hmem fvs u q
            rw [n0] at this
            exact List.mem_of_mem_take this
        · dsimp only at h
          split at h
          · next c1 =>
            have ro : Rp X.K cl (hide (L ++ w.O0) H2) (.ref a) (.obj c' fs) := (Rp.obj kc.at_ e0 n0 r0).mono (st2.sn W2)
            have rr2 := rrs.append (hdd (hide (L ++ w.O0) H2))
            refine ⟨?_, L ++ w.O0, .obj c' fs :: (rs ++ dd), W2.alive, .cons ro rr2, h.fin (st1.trans st2) W2⟩
            have := rr2.len
            simp only [List.length_cons] at this ⊢
            omega
          · exact h.elim
    · exact h.elim
  | _ => exact h.elim
theorem d_meth {pl : Sem Bool} (kc : ClsD X.K cl c C names) (hmn : m ∉ names) (hm : Meth X.K C m f) (F : FnG X.prog X.w X.K X.mg X.base CX0 k f fd ps (spP X.K cl n g)) (hgd : X.A.guards = some []) (hr : Room k X.A) (hb : Binds X.K fd ps ds) (hd : Vals dvs ds) (hdd : ∀ H : Hp, RpA X.K cl H dvs dd)
    (he : PE X o (TEof X.K cl fo)) (ha : PA X (e :: es) (TAof X.K cl fr)) (hst : starEach (e :: es) X.env = (false, eval e X.env) :: starEach es X.env := by rfl) (hpl : (backTo pos (starEach es X.env)).any (·.1) = false := by rfl)
    (ht : eval
          (.Call (.Attribute o m apos) (e :: es) [] pos) X.env = (do
      let ov ← eval o X.env
      standAt apos.atName
      let (f, first) ← holding [ov]
            (getMethod ov m pl)
      callWith pos f first
            (backTo pos (starEach (e :: es) X.env)) (backToKw pos (keywordEach [] X.env))) := by rfl) :
    PE X (.Call (.Attribute o m apos) (e :: es) [] pos) (TEof X.K cl (dMeth c m n g dd fo fr)) := iE (pe_methG he kc.cls hm F hgd hr hb hd pass0 ha hst hpl ht) (meth_read kc hmn hdd)
theorem d_meth0 {pl : Sem Bool} (kc : ClsD X.K cl c C names) (hmn : m ∉ names) (hm : Meth X.K C m f) (F : FnG X.prog X.w X.K X.mg X.base CX0 k f fd ps (spP X.K cl n g)) (hgd : X.A.guards = some []) (hr : Room k X.A) (hb : Binds X.K fd ps ds) (hd : Vals dvs ds) (hdd : ∀ H : Hp, RpA X.K cl H dvs dd)
    (he : PE X o (TEof X.K cl fo))
    (ht : eval
          (.Call (.Attribute o m apos) [] [] pos) X.env = (do
      let ov ← eval o X.env
      standAt apos.atName
      let (f, first) ← holding [ov]
            (getMethod ov m pl)
      callWith pos f first
            (backTo pos (starEach [] X.env)) (backToKw pos (keywordEach [] X.env))) := by rfl) :
    PE X (.Call (.Attribute o m apos) [] [] pos) (TEof X.K cl (dMeth c m n g dd fo aNil)) := iE (pe_methG0 he kc.cls hm F hgd hr hb hd pass0 ht) (fun σ H Q h => by
      obtain ⟨w, L, sd, W, h⟩ := meth_read kc hmn hdd σ H Q h
      refine ⟨w, L, sd, W, ?_⟩
      generalize fo sd = mm at h
      match mm, h with
      | none, h => exact h.elim
      | some (.ex _), h => exact h.elim
      | some (.ok (r, s1)), h =>
        intro v H1 st1 W1 rr
        obtain ⟨a, dx, fs, h1, h2, h3, h4⟩ := h v H1 st1 W1 rr
        exact ⟨a, dx, fs, h1, h2, h3, nil_read σ H1 _ h4⟩)
theorem prop_read (kc : ClsD X.K cl c C names) : ∀ σ H Q, TEof X.K cl (dProp c g fo) σ H Q → tProp C (spP X.K cl 1 g) [] E0 (TEof X.K cl fo) σ H Q := by
  rintro σ H Q ⟨w, L, sd, W, h0⟩
  refine ⟨w, L, sd, W, PostE.bd botE h0 fun r s1 h v H1 st1 W1 rr => ?_⟩
  cases r with
  | obj c' fs =>
    dsimp only at h
    split at h
    · next ec =>
      subst ec
      have rr0 := rr
      cases rr with
      | obj k0 e0 n0 r0 =>
        rw [kc.at_] at k0
        cases k0
        exact ⟨_, _, _, rfl, (hide_some.mp e0).2, rfl, L ++ w.O0, [.obj c' fs], W1.alive, .cons rr0 .nil, h.fin st1 W1⟩
    · exact h.elim
  | _ => exact h.elim
theorem d_prop (kc : ClsD X.K cl c C names) (hp : PropOf X.K C m pa f) (F : FnG X.prog X.w X.K X.mg X.base CX0 k f fd ps (spP X.K cl 1 g)) (hgd : X.A.guards = some []) (hr : Room (k + 1) X.A) (hb : Binds X.K fd ps []) (he : PE X o (TEof X.K cl fo))
    (hab : attributeBase o m X.env (eval o X.env) = eval o X.env := by rfl) : PE X (.Attribute o m pos) (TEof X.K cl (dProp c g fo)) := iE (pe_propG he kc.cls hp F hgd hr hb pass0 hab) (prop_read kc)
end
end Dt
namespace Dt
open L2 PySem PySem.Spec PyProof.Rows
/-! ### a op b op c -/
def dChain (g g' : Op2) (fa fb fc : S → M (D × S)) : S → M (D × S) := fun s => bd (fa s) fun p => bd (fb p.2) fun q => bd (g p.1 q.1) fun r => match r with
  | .bl true => bd (fc q.2) fun t => bd (g' q.1 t.1) fun z => ok (z, t.2)
  | .bl false => ok (.bl false, q.2)
  | _ => none
section
variable {X : Cx} {K : PySem.W.Frag} {cl : Cl} {pos : Pos} {a b c : Expr} {fa fb fc : S → M (D × S)} {g g' : Op2} {op op' : CmpOp}
theorem chain_read {r r' : R2} (h2 : OpD K cl r g) (h2' : OpD K cl r' g') : ∀ σ H Q, TEof K cl (dChain g g' fa fb fc) σ H Q → tChain r r' (TEof K cl fa) (TEof K cl fb) (TEof K cl fc) σ H Q := by
  rintro σ H Q ⟨w, L, sd, W, h0⟩
  refine ⟨w, L, sd, W, PostE.bd botE h0 fun x s1 h v H1 st1 W1 rx => ?_⟩
  refine ⟨w, L, s1, W1, PostE.bd botE h fun y s2 h u H2 st2 W2 ry => ?_⟩
  refine h2 (L ++ w.O0) H2 v u x y _ W2.alive (rx.mono (st2.sn W2)) ry ?_
  dsimp only at h
  generalize g x y = mm at h
  match mm, h with
  | none, h => exact h.elim
  | some (.ex _), h => exact h.elim
  | some (.ok r0), h =>
    intro z H3 sm rz
    have st3 : Step w L H2 L H3 := .of_same sm
    cases r0 with
    | bl k =>
      cases rz
      cases k with
      | false => exact ⟨false, rfl, by rw [if_neg Bool.false_ne_true]; exact h (.bl false) H3 ((st1.trans st2).trans st3) (W2.ext sm) (.bl _)⟩
      | true =>
        refine ⟨true, rfl, ?_⟩
        rw [if_pos rfl]
        have W3 := W2.ext sm
        refine ⟨w, L, s2, W3, PostE.bd botE h fun t s4 h v4 H4 st4 W4 rt => ?_⟩
        exact h2' (L ++ w.O0) H4 u v4 y t Q W4.alive ((ry.mono (st3.sn W3)).mono (st4.sn W4)) rt (h.fin (((st1.trans st2).trans st3).trans st4) W4)
    | _ => exact h.elim
theorem d_chain (ho : OpK X K cl (compareOp op) g) (ho' : OpK X K cl (compareOp op') g') (ha : PE X a (TEof K cl fa)) (hb : PE X b (TEof K cl fb)) (hc : PE X c (TEof K cl fc))
    (hm : lastMarks [op, op'] [b, c] = false := by with_unfolding_all rfl) : PE X (.Compare a [op, op'] [b, c] pos) (TEof K cl (dChain g g' fa fb fc)) := by
  obtain ⟨r, h1, h2⟩ := ho.it
  obtain ⟨r', h1', h2'⟩ := ho'.it
  exact iE (pe_chain h1 h1' ha hb hc hm) (chain_read h2 h2')
end
/-! ### built-ins that make a list -/
def FreshD (K : PySem.W.Frag) (cl : Cl) (r : List V → Hp → VK → Prop) (g : OpN) : Prop := ∀ (O : List Addr) (H : Hp) (xs : List V) (ds : List D) (Q : VK), (∀ a ∈ O, H a ≠ none) → RpA K cl (hide O H) xs ds →
  (match g ds with
    | some (.ok d) => ∀ p H', Same H H' → H p = none → OwnAt K cl (p :: O) H' p d → Q (.ref p) H'
    | _ => False) → r xs H Q
structure FreshK (X : Cx) (K : PySem.W.Frag) (cl : Cl) (f : Value) (g : OpN) : Prop where
  it : ∃ r, CallR X f r ∧ FreshD K cl r g
section
variable {X : Cx} {K : PySem.W.Frag} {cl : Cl} {pos p : Pos} {e : Expr} {es : List Expr} {fr : S → M (List D × S)} {g : OpN} {x : Str} {id T : String}
theorem fresh_read {r : List V → Hp → VK → Prop} (hd : FreshD K cl r g) : ∀ σ H Q, TFof K cl (dCall g fr) σ H Q → tCB r (TAof K cl fr) σ H Q := by
  rintro σ H Q ⟨w, L, sd, W, h⟩
  refine ⟨w, L, sd, W, PostA.bd botF h fun rs s1 h vs H1 st1 W1 rr => ?_⟩
  refine hd (L ++ w.O0) H1 vs rs Q W1.alive rr ?_
  dsimp only at h
  generalize g rs = mm at h
  match mm, h with
  | none, h => exact h.elim
  | some (.ex _), h => exact h.elim
  | some (.ok d), h =>
    intro p H' sm np ho
    have st2 : Step w L H1 (p :: L) H' := ⟨fun b o _ _ e => sm b o e, (Step.of_same (w := w) (L := L) sm).alv, fun a ha => by
      (rcases List.mem_cons.mp ha with rfl | ha)
      · exact .inr np
      · exact .inl ha⟩
    exact h p H' (st1.trans st2) (W1.new_ne np) (W1.ext sm) (W1.made sm np ho.some) ho
theorem f_callB (hc : FreshK X K cl (.builtin id) g) (hm : X.mg x = none) (hv : bootBuiltins x = some (.builtin id)) (ha : PA X (e :: es) (TAof K cl fr)) (hg : Gl X x := by rfl) (hn : x ≠ "__name__" := by decide) (hdb : (x == ("__debug__" : Str)) = false := by decide)
    (he : starEach (e :: es) X.env = (false, eval e X.env) :: starEach es X.env := by rfl) (hpl : (backTo pos (starEach es X.env)).any (·.1) = false := by rfl) : PE X (.Call (.Name x p) (e :: es) [] pos) (TFof K cl (dCall g fr)) := by
  obtain ⟨r, h1, h2⟩ := hc.it
  exact iE (pe_callB h1 hg hm hv ha hn hdb he hpl) (fresh_read h2)
theorem f_callT (hc : FreshK X K cl (.type T) g) (hm : X.mg x = none) (hv : bootBuiltins x = some (.type T)) (ha : PA X (e :: es) (TAof K cl fr)) (hg : Gl X x := by rfl) (hn : x ≠ "__name__" := by decide) (hdb : (x == ("__debug__" : Str)) = false := by decide)
    (he : starEach (e :: es) X.env = (false, eval e X.env) :: starEach es X.env := by rfl) (hpl : (backTo pos (starEach es X.env)).any (·.1) = false := by rfl) : PE X (.Call (.Name x p) (e :: es) [] pos) (TFof K cl (dCall g fr)) := by
  obtain ⟨r, h1, h2⟩ := hc.it
  exact iE (pe_callTy h1 hg hm hv ha hn hdb he hpl) (fresh_read h2)
end
section
variable {X : Cx} {K : PySem.W.Frag} {cl : Cl}
theorem own_new {O : List Addr} {H : Hp} {p : Addr} {xs : List V} {ds : List D} (al : ∀ a ∈ O, H a ≠ none) (np : H p = none) (r : RpA K cl (hide O H) xs ds) : OwnAt K cl (p :: O) (upd H p (.lst xs)) p (.lst ds) := by
  refine ⟨xs, upd_same, r.mono fun b o z => ?_⟩
  obtain ⟨z1, z2⟩ := hide_some.mp z
  have nb := ne_of_none z2 np
  refine hide_some.mpr ⟨fun q => ?_, by rw [upd_ne nb]; exact z2⟩
  rcases List.mem_cons.mp q with q | q
  · exact nb q
  · exact z1 q
theorem f_list : FreshK X X.K cl (.type "list") listN := by
  refine ⟨_, call_list_of, fun O H xs ds Q al r h => ?_⟩
  unfold listN at h
  split at h
  · next d hd =>
    split at hd
    · obtain ⟨v, rfl, rv⟩ := r.one
      cases rv with
      | lst s r =>
        cases hd
        exact ⟨_, _, rfl, .inl (hide_le.seq s), fun p np => h p _ (same_upd np) np (own_new al np r)⟩
    · obtain ⟨v, rfl, rv⟩ := r.one
      cases rv with
      | tup s r =>
        cases hd
        exact ⟨_, _, rfl, .inr (same_sqT hide_le s), fun p np => h p _ (same_upd np) np (own_new al np r)⟩
    · cases hd
  · exact h.elim
end
/-! ### sorted, ints -/
def insI (i : Int) : List Int → List Int
  | [] => [i]
  | j :: r => if i ≤ j then i :: j :: r else j :: insI i r
def sortI : List Int → List Int
  | [] => []
  | i :: r => insI i (sortI r)
theorem insI_perm (i : Int) : ∀ l : List Int, (insI i l).Perm (i :: l)
  | [] => .refl _
  | j :: r => by
    unfold insI
    split
    · exact .refl _
    · exact ((insI_perm i r).cons j).trans (.swap i j r)
theorem sortI_perm : ∀ l : List Int, (sortI l).Perm l
  | [] => .refl _
  | i :: r => (insI_perm i (sortI r)).trans ((sortI_perm r).cons i)
theorem insI_sorted (i : Int) : ∀ l : List Int, l.Pairwise (· ≤ ·) → (insI i l).Pairwise (· ≤ ·)
  | [], _ => by simp [insI]
  | j :: r, h => by
    (obtain ⟨h1, h2⟩ := List.pairwise_cons.mp h)
    unfold insI
    split
    · next c =>
      refine List.pairwise_cons.mpr ⟨fun y hy => ?_, h⟩
      (rcases List.mem_cons.mp hy with rfl | hy)
      · exact c
      · exact Int.le_trans c (h1 y hy)
    · next c =>
      refine List.pairwise_cons.mpr ⟨fun y hy => ?_, insI_sorted i r h2⟩
      rcases List.mem_cons.mp ((insI_perm i r).mem_iff.mp hy) with rfl | hy
      · omega
      · exact h1 y hy
theorem sortI_sorted : ∀ l : List Int, (sortI l).Pairwise (· ≤ ·)
  | [] => .nil
  | i :: r => insI_sorted i _ (sortI_sorted r)
theorem sorted_one : ∀ (l m : List Int), l.Perm m → l.Pairwise (· ≤ ·) → m.Pairwise (· ≤ ·) → l = m
  | [], m, h, _, _ => (List.Perm.nil_eq h)
  | i :: l, [], h, _, _ => absurd h.length_eq (by simp)
  | i :: l, j :: m, h, hl, hm => by
    obtain ⟨l1, l2⟩ := List.pairwise_cons.mp hl
    obtain ⟨m1, m2⟩ := List.pairwise_cons.mp hm
    have e : i = j := by
      have a : i ≤ j := by
        rcases List.mem_cons.mp (h.mem_iff.mpr (List.mem_cons_self (a := j) (l := m))) with q | q
        · omega
        · exact l1 j q
      have b : j ≤ i := by
        rcases List.mem_cons.mp (h.mem_iff.mp (List.mem_cons_self (a := i) (l := l))) with q | q
        · omega
        · exact m1 i q
      omega
    subst e
    rw [sorted_one l m (h.cons_inv) l2 m2]
def sortedN : OpN := fun ds => match ds with
  | [.lst xs] => match ints? xs with
    | some ns => ok (.lst ((sortI ns).map D.int))
    | none => none
  | _ => none
section
variable {X : Cx} {cl : Cl}
theorem f_sorted : FreshK X X.K cl (.builtin "sorted") sortedN := by
  refine ⟨_, cr_sortedI, fun O H xs ds Q al r h => ?_⟩
  unfold sortedN at h
  split at h
  · next d hd =>
    split at hd
    · next zs =>
      split at hd
      · next ns hn =>
        cases hd
        obtain ⟨v, rfl, rv⟩ := r.one
        cases rv with
        | lst s r =>
          rw [of_ints? hn] at r
          rw [r.ints] at s
          refine ⟨_, ns, rfl, hide_le.seq s, fun ns' p pm pw np => ?_⟩
          have e : ns' = sortI ns := sorted_one _ _ (pm.trans (sortI_perm ns).symm) pw (sortI_sorted ns)
          subst e
          exact h p _ (same_upd np) np (own_new al np RpA.ofInts)
      · cases hd
    · cases hd
  · exact h.elim
end
end Dt
namespace Dt
open L2 PySem PySem.Spec PyProof.Rows
/-! ### own dicts -/
def kD : D → Option Key
  | .int i => some (.inl i)
  | .str x => some (.inr x)
  | _ => none
theorem kD_rp {K : PySem.W.Frag} {cl : Cl} {H : Hp} {v : V} {d : D} {k : Key} (r : Rp K cl H v d) (h : kD d = some k) : v = kV k := by
  cases r with
  | int i => cases h; rfl
  | str x => cases h; rfl
  | _ => cases h
def hasK (k : Key) (ks : List Key) : Bool := ks.any fun k0 => decide (k0 = k)
def repK (k : Key) (d : D) : List Key → List D → List D
  | k0 :: ks, d0 :: ds => (if k0 = k then d else d0) :: repK k d ks ds
  | _, _ => []
def putKs (k : Key) (d : D) (ks : List Key) (ds : List D) : List Key × List D := if hasK k ks = true then (ks, repK k d ks ds) else (ks ++ [k], ds ++ [d])
def dDic0 : S → M (D × S) := fun s => ok (.dic [] [], s)
def sDPut (i : Nat) (fk f : S → M (D × S)) : S → M Out := fun s => bd (f s) fun p => match ownD p.2[i]? with
  | some (.dic _ _) => bd (fk p.2) fun q => match ownD q.2[i]?, kD q.1 with
    | some (.dic ks ds), some k => if ks.length < sizeLine then ok (.nx (putD q.2 i (.dic (putKs k p.1 ks ds).1 (putKs k p.1 ks ds).2))) else none
    | _, _ => none
  | _ => none
def dInDic (i : Nat) (fk : S → M (D × S)) : S → M (D × S) := fun s => bd (fk s) fun q => match ownD q.2[i]?, kD q.1 with
  | some (.dic ks _), some k => ok (.bl (hasK k ks), q.2)
  | _, _ => none
def dNinDic (i : Nat) (fk : S → M (D × S)) : S → M (D × S) := fun s => bd (fk s) fun q => match ownD q.2[i]?, kD q.1 with
  | some (.dic ks _), some k => ok (.bl (!hasK k ks), q.2)
  | _, _ => none
theorem any_hasK (k : Key) (kvs : List (Key × V)) : (kvs.any fun kv => decide (kv.1 = k)) = hasK k (kvs.map (·.1)) := by
  unfold hasK
  rw [List.any_map]
  rfl
theorem rp_repK {K : PySem.W.Frag} {cl : Cl} {H : Hp} {k : Key} {v : V} {d : D} (rv : Rp K cl H v d) : ∀ (kvs : List (Key × V)) (ds : List D), RpA K cl H (kvs.map (·.2)) ds →
    (kvs.map fun kv => if kv.1 = k then (kv.1, v) else kv).map (·.1) = kvs.map (·.1) ∧ RpA K cl H ((kvs.map fun kv => if kv.1 = k then (kv.1, v) else kv).map (·.2)) (repK k d (kvs.map (·.1)) ds)
  | [], ds, r => by
    cases r
    exact ⟨rfl, .nil⟩
  | p :: kvs, ds, r => by
    cases r with
    | cons r1 r2 =>
      obtain ⟨i1, i2⟩ := rp_repK rv kvs _ r2
      by_cases e : p.1 = k
      · simp only [List.map_cons, if_pos e, repK]
        exact ⟨by rw [i1], .cons rv i2⟩
      · simp only [List.map_cons, if_neg e, repK]
        exact ⟨by rw [i1], .cons r1 i2⟩
theorem rp_put {K : PySem.W.Frag} {cl : Cl} {H : Hp} {k : Key} {v : V} {d : D} (rv : Rp K cl H v d) (kvs : List (Key × V)) (ds : List D) (r : RpA K cl H (kvs.map (·.2)) ds) :
    (putK kvs k v).map (·.1) = (putKs k d (kvs.map (·.1)) ds).1 ∧ RpA K cl H ((putK kvs k v).map (·.2)) (putKs k d (kvs.map (·.1)) ds).2 := by
  unfold putK putKs
  rw [any_hasK]
  split
  · exact rp_repK rv kvs ds r
  · rw [List.map_append, List.map_append]
    exact ⟨rfl, r.append (.cons rv .nil)⟩
section
variable {X : Cx} {K : PySem.W.Frag} {cl : Cl} {pos : Pos} {w : Wf} {L : List Addr} {sd : S} {σ : L2.St} {H : Hp} {f fk : S → M (D × S)} {e ke : Expr}
theorem f_dic0 : PE X (.Dict [] [] pos) (TFof K cl dDic0) := by
  refine iE pe_dnewK ?_
  rintro σ H Q ⟨w, L, sd, W, h⟩
  intro p np
  have sm := same_upd (o := .dK []) np
  have st2 : Step w L H (p :: L) (upd H p (.dK [])) := ⟨(Step.of_same (w := w) (L := L) sm).keep, (Step.of_same (w := w) (L := L) sm).alv, fun a ha => by
    (rcases List.mem_cons.mp ha with rfl | ha)
    · exact .inr np
    · exact .inl ha⟩
  exact h p _ st2 (W.new_ne np) (W.ext sm) (W.made sm np (by rw [upd_same]; simp)) ⟨[], upd_same, rfl, .nil⟩
end
section
variable {X : Cx} {cl : Cl} {pos : Pos} {w : Wf} {L : List Addr} {sd : S} {σ : L2.St} {H : Hp} {f fk : S → M (D × S)} {e ke : Expr}
/-- d[k] = e -/
theorem s_dput (hu : X.A.units + 1 < cLine) (i : Nat) {x : Str} {p0 spos : Pos} (he : PE X e (TEof X.K cl f)) (hk : PE X ke (TEof X.K cl fk)) (hN : X.N[i]? = some x := by rfl) (hv : Vis X.env.scope x := by first | exact Or.inl rfl | exact Or.inr (Or.inl rfl) | exact Or.inr (Or.inr rfl))
    (hd : (x == ("__debug__" : Str)) = false := by decide) (hcd : (x == ("__classdict__" : Str)) = false := by decide) (hs : swapsWith e (some (.Subscript (.Name x p0) ke spos)) pos.line X.env = pure false := by rfl) :
    PS X (.Assign [.Subscript (.Name x p0) ke spos] e pos) (TSof X.K cl [] (sDPut i fk f)) := by
  refine iS (ps_dput hu (pe_var hN hv hd hcd) hk he hs) ?_
  rintro E σ H ⟨w, L, sd, W, h⟩
  refine ⟨w, L, sd, W, PostE.bd botS h fun r s1 h v H1 st1 W1 rr => ?_⟩
  dsimp only at h
  split at h
  · next ks0 ds0 e0 =>
    obtain ⟨a, q1, q2, q3⟩ := W1.atD e0
    refine ⟨.ref a, q1, w, L, s1, W1, PostE.bd botS h fun k s2 h u H2 st2 W2 rk => ?_⟩
    dsimp only at h
    split at h
    · next ks ds k' e1 e2 =>
      obtain ⟨a', p1, p2, p3⟩ := W2.atD e1
      rw [q1] at p1
      cases p1
      have hal := p3.some
      obtain ⟨kvs, g1, g2, g3⟩ := p3
      subst g2
      split at h
      · next c =>
        obtain ⟨z1, z2⟩ := rp_put (k := k') (rr.mono (st2.sn W2)) kvs ds g3
        have hin : a ∈ L ++ w.O0 := by
          rcases p2 with z | z
          · (exact List.mem_append_left _ z)
          · exact List.mem_append_right _ (W.sub a z.2)
        obtain ⟨W3, st3⟩ := W2.wrote (H' := upd H2 a (.dK (putK kvs k' v))) (d1 := .dic (putKs k' r (kvs.map (·.1)) ds).1 (putKs k' r (kvs.map (·.1)) ds).2) e1 q1 p2 hal (fun b o n q => by rw [upd_ne n]; exact q) ⟨_, upd_same, z1, by rw [hide_in hin]; exact z2⟩
        refine ⟨a, _, rfl, ?_, h L σ _ ((st1.trans st2).trans st3) W3 .refl⟩
        rw [kD_rp rk e2]
        exact DPut.k g1 (by simpa using c)
      · exact h.elim
    · exact h.elim
  · exact h.elim
theorem in_dic_read (i : Nat) (neg : Bool) {g : List Key → Key → Bool} (hg : ∀ (kvs : List (Key × V)) k, g (kvs.map (·.1)) k = (if neg then !(valV kvs k).isSome else (valV kvs k).isSome))
    {σ : L2.St} {H : Hp} {Q : VK} {x : Str} {td : TE} (htd : ∀ a H', σ[i]? = some (some (.ref a)) → ∀ C : VK, C (.ref a) H' → td σ H' C)
    (h : TEof X.K cl (fun s => bd (fk s) fun q => match ownD q.2[i]?, kD q.1 with
      | some (.dic ks _), some k => ok (.bl (g ks k), q.2)
      | _, _ => none) σ H Q) : TEof X.K cl fk σ H fun y H1 => td σ H1 fun x H2 => ∃ a o, x = .ref a ∧ DGet H2 a y o ∧ Q (.bl (if neg then !o.isSome else o.isSome)) H2 := by
  obtain ⟨w, L, sd, W, h⟩ := h
  refine ⟨w, L, sd, W, PostE.bd botE h fun k s1 h u H1 st1 W1 rk => ?_⟩
  dsimp only at h
  split at h
  · next ks ds k' e1 e2 =>
    obtain ⟨a, p1, p2, kvs, g1, g2, g3⟩ := W1.atD e1
    subst g2
    refine htd a H1 p1 _ ⟨a, valV kvs k', rfl, ?_, ?_⟩
    · rw [kD_rp rk e2]
      exact DGet.k g1
    · rw [← hg kvs k']
      exact h _ H1 st1 W1 (.bl _)
  · exact h.elim
theorem valV_has (kvs : List (Key × V)) (k : Key) : (valV kvs k).isSome = hasK k (kvs.map (·.1)) := by
  rw [← valV_any, any_hasK]
theorem pc_inDic (hu : X.A.units + 1 < cLine) (i : Nat) {x : Str} {p0 : Pos} (hk : PE X ke (TEof X.K cl fk)) (hN : X.N[i]? = some x := by rfl) (hv : Vis X.env.scope x := by first | exact Or.inl rfl | exact Or.inr (Or.inl rfl) | exact Or.inr (Or.inr rfl))
    (hd : (x == ("__debug__" : Str)) = false := by decide) (hcd : (x == ("__classdict__" : Str)) = false := by decide) : PC X .In ke (.Name x p0) (TEof X.K cl (dInDic i fk)) := by
  have h1 := pc_din hu hk (pe_var (pos := p0) hN hv hd hcd)
  refine ⟨fun pins s σ H Q I h => h1.run pins s σ H Q I ?_⟩
  exact in_dic_read (X := X) (x := x) i false (g := fun ks k => hasK k ks) (fun kvs k => (valV_has kvs k).symm) (fun a H' e C c => ⟨_, e, c⟩) h
theorem pc_ninDic (hu : X.A.units + 1 < cLine) (i : Nat) {x : Str} {p0 : Pos} (hk : PE X ke (TEof X.K cl fk)) (hN : X.N[i]? = some x := by rfl) (hv : Vis X.env.scope x := by first | exact Or.inl rfl | exact Or.inr (Or.inl rfl) | exact Or.inr (Or.inr rfl))
    (hd : (x == ("__debug__" : Str)) = false := by decide) (hcd : (x == ("__classdict__" : Str)) = false := by decide) : PC X .NotIn ke (.Name x p0) (TEof X.K cl (dNinDic i fk)) := by
  have h1 := pc_dnotin hu hk (pe_var (pos := p0) hN hv hd hcd)
  refine ⟨fun pins s σ H Q I h => h1.run pins s σ H Q I ?_⟩
  exact in_dic_read (X := X) (x := x) i true (g := fun ks k => !hasK k ks) (fun kvs k => by rw [if_pos rfl, valV_has]) (fun a H' e C c => ⟨_, e, c⟩) h
theorem d_inDic (hu : X.A.units + 1 < cLine) (i : Nat) {x : Str} {p0 : Pos} (hk : PE X ke (TEof X.K cl fk)) (hN : X.N[i]? = some x := by rfl) (hv : Vis X.env.scope x := by first | exact Or.inl rfl | exact Or.inr (Or.inl rfl) | exact Or.inr (Or.inr rfl))
    (hd : (x == ("__debug__" : Str)) = false := by decide) (hcd : (x == ("__classdict__" : Str)) = false := by decide) (hb : behindInMarks .In (.Name x p0) = false := by rfl) : PE X (.Compare ke [.In] [.Name x p0] pos) (TEof X.K cl (dInDic i fk)) := pe_cmp (pc_inDic hu i hk hN hv hd hcd) hb
theorem d_ninDic (hu : X.A.units + 1 < cLine) (i : Nat) {x : Str} {p0 : Pos} (hk : PE X ke (TEof X.K cl fk)) (hN : X.N[i]? = some x := by rfl) (hv : Vis X.env.scope x := by first | exact Or.inl rfl | exact Or.inr (Or.inl rfl) | exact Or.inr (Or.inr rfl))
    (hd : (x == ("__debug__" : Str)) = false := by decide) (hcd : (x == ("__classdict__" : Str)) = false := by decide) (hb : behindInMarks .NotIn (.Name x p0) = false := by rfl) : PE X (.Compare ke [.NotIn] [.Name x p0] pos) (TEof X.K cl (dNinDic i fk)) := pe_cmp (pc_ninDic hu i hk hN hv hd hcd) hb
end
/-! ### for over an own list, which stays as long as it is -/
def forO (i n : Nat) (T : D → S → M S) (F : S → M Out) : Nat → S → M Out
  | 0, s => match ownL s[i]? with
    | some ds => if ds.length = n then ok (.nx s) else none
    | none => none
  | k + 1, s => match ownL s[i]? with
    | some ds => if ds.length = n then (match ds[n - (k + 1)]? with
      | some d => bd (T d s) fun s1 => bd (F s1) fun o => match o with
        | .nx s2 => forO i n T F k s2
        | .ct s2 => forO i n T F k s2
        | .bk s2 => ok (.nx s2)
        | o => ok o
      | none => none) else none
    | none => none
def sForO (i : Nat) (T : D → S → M S) (F : S → M Out) : S → M Out := fun s => match ownL s[i]? with
  | some ds => forO i ds.length T F ds.length s
  | none => none
section
variable {X : Cx} {cl : Cl} {pos : Pos} {body : List Stmt} {ts us : List Nat} {F : S → M Out} {T : D → S → M S} {tg : Expr}
theorem s_forO (hp : PassesOwn (model X.prog X.w) X.A X.env X.xe) (i : Nat) {x : Str} {p0 : Pos} (hg : PG X tg (TGof X.K cl us T)) (hb : PSs X body (TSof X.K cl ts F)) (hN : X.N[i]? = some x := by rfl) (hv : Vis X.env.scope x := by first | exact Or.inl rfl | exact Or.inr (Or.inl rfl) | exact Or.inr (Or.inr rfl))
    (hd : (x == ("__debug__" : Str)) = false := by decide) (hcd : (x == ("__classdict__" : Str)) = false := by decide) (hc : X.calm = true := by rfl) (hs : ∀ v, foldedSetIterable (.Name x p0) X.env v = pure v := by intro _; rfl) (hni : i ∉ us ++ ts := by decide) :
    PS X (.For tg (.Name x p0) body [] pos) (TSof X.K cl (us ++ ts) (sForO i T F)) := by
  refine iS (ps_for hp hc (pi_list (pe_var hN hv hd hcd)) hg hb hs) ?_
  rintro E σ0 H0 ⟨w, L0, sd, W, h⟩
  unfold sForO at h
  split at h
  · next ds0 e0 =>
    obtain ⟨a, xs0, q1, q2, q3, q4⟩ := W.at e0
    refine ⟨.ref a, q1, a, rfl, ⟨xs0, SqL.of q3⟩, ?_⟩
    generalize em : forO i ds0.length T F ds0.length sd = m at h
    match m, h with
    | none, h => exact h.elim
    | some (.ex _), h => exact h.elim
    | some (.ok o), h =>
      have n0 := ds0.length
      refine ⟨fun j m σ H => m = ds0.length - j ∧ j ≤ ds0.length ∧ ∃ L s, Wl X.K cl w L s σ H ∧ Step w L0 H0 L H ∧ Agree (us ++ ts) σ0 σ ∧ forO i ds0.length T F (ds0.length - j) s = ok o, ⟨ds0.length, by omega, Nat.zero_le _, L0, sd, W, .refl, .refl, by rw [Nat.sub_zero]; exact em⟩, ?_⟩
      rintro j m σ H ⟨rfl, hj, L, s, Ws, st, ag, hm⟩
      have hσ : ∀ {σ'}, Agree (us ++ ts) σ0 σ' → σ'[i]? = some (some (.ref a)) := fun q => (q.out i hni).trans q1
      by_cases hlt : j < ds0.length
      · obtain ⟨k, hk⟩ : ∃ k, ds0.length - j = k + 1 := ⟨ds0.length - j - 1, by omega⟩
        rw [hk, forO] at hm
        split at hm
        · next ds e1 =>
          split at hm
          · next el =>
            have ej : ds0.length - (k + 1) = j := by omega
            rw [ej] at hm
            obtain ⟨a', xs, p1, p2, p3, p4⟩ := Ws.at e1
            rw [hσ ag] at p1
            cases p1
            split at hm
            · next d hd =>
              obtain ⟨v, g1, g2⟩ := p4.get j hd
              refine .inr ⟨⟨xs, v, SqL.of p3, g1⟩, fun σ' H' => ∃ L s, Wl X.K cl w L s σ' H' ∧ Step w L0 H0 L H' ∧ Agree (us ++ ts) σ0 σ' ∧ forO i ds0.length T F (ds0.length - (j + 1)) s = ok o, fun σ' H' q => ⟨ds0.length - (j + 1), by omega, rfl, hlt, q⟩, fun x H2 hy => ?_⟩
              obtain ⟨rfl, hy⟩ := hy
              have hx := hy xs (SqL.of p3)
              rw [g1] at hx
              cases hx
              refine ⟨w, L, s, d, Ws, g2, ?_⟩
              have ek : ds0.length - (j + 1) = k := by omega
              rw [ek]
              match (T d s : M S), hm with
              | none, hm => cases hm
              | some (.ex _), hm => cases hm
              | some (.ok s3), hm =>
                intro σ3 H3 st3 W3 ag3
                refine ⟨w, L, s3, W3, ?_⟩
                have st4 := st.trans st3
                have ag4 : ∀ {σ'}, Agree ts σ3 σ' → Agree (us ++ ts) σ0 σ' := fun q => (ag.trans (ag3.trans q)).le fun i hi => (List.mem_append.mp hi).elim id id
                dsimp only [bd] at hm
                match (F s3 : M Out), hm with
                | none, hm => cases hm
                | some (.ex _), hm => cases hm
                | some (.ok (.nx s4)), hm => exact fun L' σ' H' a b q => ⟨L', s4, b, st4.trans a, ag4 q, hm⟩
                | some (.ok (.ct s4)), hm => exact fun L' σ' H' a b q => ⟨L', s4, b, st4.trans a, ag4 q, hm⟩
                | some (.ok (.bk s4)), hm => cases hm; exact fun L' σ' H' a b q => h L' σ' H' (st4.trans a) b (ag4 q)
                | some (.ok (.rt d s4)), hm => cases hm; exact fun L' σ' H' v a b q => h L' σ' H' v (st4.trans a) b q
                | some (.ok (.rf d s4)), hm => cases hm; exact fun L' σ' H' v a b q r t => h L' σ' H' v (st4.trans a) b q r t
            · cases hm
          · cases hm
        · cases hm
      · have ej : j = ds0.length := by omega
        subst ej
        rw [Nat.sub_self, forO] at hm
        split at hm
        · next ds e1 =>
          split at hm
          · next el =>
            obtain ⟨a', xs, p1, p2, p3, p4⟩ := Ws.at e1
            rw [hσ ag] at p1
            cases p1
            cases hm
            exact .inl ⟨⟨xs, SqL.of p3, by rw [p4.len, el]; exact Nat.le_refl _⟩, h L σ H st Ws ag⟩
          · cases hm
        · cases hm
  · exact h.elim
end
end Dt
namespace Dt
open L2 PySem PySem.Spec PyProof.Rows
/-! ### sorted(set(xs)), ints -/
/-- an empty set as it is made -/
abbrev set0 (w : World) : Obj := { cls := .type "set", dict := none, data := .set #[] 0 (.fresh 0 0 (!w.params.followText "set-order")) }
section
variable {P : Program} {w : World} {A : Around} {E : Value
      → Shared → Prop} {s : Shared}
theorem set_of_list {l : Addr} {items : Array Value} (ns : List Int) {Q : Value → Shared → Prop} (hh : A.handled = none) (hl : s.heap.IsList l items) (hit : IntsAre items.toList ns) (hb : ns.length + 1 < scanBound)
    (h : ∀ (h' : Heap) (tk c : Nat), SetR w h' s.heap.objs.size (fun j => decide (j ∈ ns)) c
          → c ≤ ns.length → (∀ b o, s.heap.get? b = some o → h'.get? b = some o) → Q (.ref s.heap.objs.size) { s with heap := h', toks := tk }) :
    wpAny (model P w) A
          (call (.type "set") [.ref l]) Q E s := by
  have hisz
        : items.size = ns.length := by
    have q := IntsAre.length hit
    rwa [Array.length_toList] at q
  (obtain ⟨c, tl, hmro⟩ := F.called_set.mro)
  (have hmade := F.called_set.made)
  have hsub := F.called_set.sub
  (refine wpAny_call (codeAny_of_tree ?_))
  (show wpAny _ _ (callAny (.type "set") _) _ _ _)
  (refine wpAny_pure ⟨Code.quiet_builtin _ (by decide +kernel), codeAny_builtin F.entry_type_call ?_⟩)
  (rw [Around.under_plain (weight_type_call_type "set" [.ref l] []) rfl])
  (have h1 := F.called_set.notType)
  (have h2 := F.called_set.canCreate)
  (have hct := F.typeCall_set_1 (.ref l))
  repeat (any_goals
        (first | assumption | wp_step))
  refine codeAny_mono (code_set_led1 (.ref l) (E := E) (Q₁ := fun obj s₁ => obj = .ref s.heap.objs.size ∧ s₁ = { s with heap := s.heap.push (set0 w) }) ⟨rfl, rfl⟩) fun r s₁ hr => ?_
  match r, hr with
  | .error e, hr => exact hr
  | .ok .next, hr => exact hr.elim
  | .ok .brk, hr => exact hr.elim
  | .ok .cont, hr => exact hr.elim
  | .ok (.ret obj), ⟨e1, e2⟩ =>
    subst e1 e2
    have hS : (s.heap.push (set0 w)).get? s.heap.objs.size = some (set0 w) := Heap.get?_push_size _ rfl
    have hT : Shared.TypeIs { s with heap := s.heap.push (set0 w) } (.ref s.heap.objs.size) "set" := ⟨_, hS, rfl⟩
    (have hli := F.called_set.init.lookup)
    (have hbi := F.called_set.init.bind (.ref s.heap.objs.size))
    repeat (any_goals
          (first | assumption | wp_step))
    refine codeAny_mono
          (codeAny_call_builtin (R := wants (fun r s₂ => r = .none ∧ ∃ h' tk c, s₂ = { s with heap := h', toks := tk } ∧ SetR w h' s.heap.objs.size (fun j => decide (j ∈ ns)) c ∧ c ≤ ns.length ∧
        (∀ b o, s.heap.get? b = some o
              → h'.get? b = some o)) E) F.called_set.init.plain F.entry_set_init (check_set_init_1 hT ?_)) fun r₂ s₂ hr₂ => ?_
    · (obtain ⟨ol, hol, hcl, nl, hdl⟩ := hl)
      (obtain ⟨ocls, odict, odata, oslots⟩ := ol)
      simp only at hcl hdl
      subst hcl hdl
      have hol' : (s.heap.push (set0 w)).get? l = some { cls := .type "list", dict := odict, data := .seq items nl, slots := oslots } := Heap.get?_push_of_some _ hol
      have hsls := F.sub_list_set
      (have hslf := F.sub_list_frozenset)
      (have hne : (Value.type "list" == Value.type "dict") = false := by decide)
      have hl1 : (s.heap.push (set0 w)).IsList l items := ⟨_, hol', rfl, nl, rfl⟩
      (unfold Builtin.«set.__init__» noKeywords Builtin.Frozenset.updateFrom)
      generalize hPI : pyIter = PI
      wp_walk
      subst hPI
      refine wpAny_pyIter_list hl1 (wpAny_bind (wpAny_runValue ?_))
      (have hlS : l < s.heap.objs.size := Heap.lt_size hol)
      (have hh3 : A.in1.in1.in1.handled = none := by simp [hh])
      have hneI : l ≠ (s.heap.push (set0 w)).objs.size := by
        (rw [Heap.size_push]; exact Nat.ne_of_lt (Nat.lt_succ_of_lt hlS))
      have hSf : s.heap.objs.size ∉ [(s.heap.push (set0 w)).objs.size, l] := by
        rw [Heap.size_push]
        intro z
        (rcases List.mem_cons.mp z with z | z)
        · exact absurd z (Nat.ne_of_lt (Nat.lt_succ_self _))
        · have : s.heap.objs.size = l := by simpa using z
          exact absurd this (Nat.ne_of_gt hlS)
      have hval : ∀ (i : Nat) (v : Value), items[i]? = some v
            → ∃ k t, ns[i]? = some k ∧ v = .int k t := fun i v hv => by
        (have hi : i < ns.length := by rw [← hisz]; exact (Array.getElem?_eq_some_iff.mp hv).1)
        (obtain ⟨t, e⟩ := PyProof.Rows.IntsAre.int_at hit i v (by rw [Array.getElem?_toList]; exact hv))
        (refine ⟨ns[i], t, List.getElem?_eq_getElem hi, ?_⟩)
        (rw [e, List.getD_eq_getElem?_getD, List.getElem?_eq_getElem hi] <;> rfl)
      refine set_update_ints ((Walks.list hh3 _ l hneI items).toS) s.heap.objs.size hSf ns hisz hb hval (items.size - 0) 0 _ (by omega) (Nat.zero_le _) ⟨⟨_, Heap.get?_push_size _ rfl, rfl, rfl⟩, (hl1.push _)⟩ ?hS0 ?hR
      case hS0 => exact ⟨0, Nat.le_refl 0, setR_new_at (Heap.get?_push_of_some _ hS)⟩
      case hR =>
        intro s' c' hm hc' hS'
        (obtain ⟨h', g2, d', tk', os'⟩ := s')
        (have eg : g2 = s.gens := hm.gens)
        (have ed : d' = s.drawn := hm.drawn)
        have eo : os' = s.os := hm.os
        subst eg ed eo
        show wpAny _ _ _ _ _ _
        refine wpAny_pure ?_
        (show wpAny _ _ (ret Value.none) _ _ _)
        rw [hisz] at hc'
        (refine wpAny_pure ⟨rfl, h', tk', c', rfl, hS', hc', fun b o e => ?_⟩)
        (have hb0 : b < s.heap.objs.size := Heap.lt_size e)
        refine hm.heap b o (fun z => ?_) (Heap.get?_push_of_some _ (Heap.get?_push_of_some _ e))
        (rcases List.mem_cons.mp z with z | z)
        · exact absurd z (Nat.ne_of_lt hb0)
        · have : b = (s.heap.push (set0 w)).objs.size := by simpa using z
          rw [Heap.size_push] at this
          exact absurd this (Nat.ne_of_lt (Nat.lt_succ_of_lt hb0))
    · match r₂, hr₂ with
      | .error e, hr₂ => exact hr₂
      | .ok .next, hr₂ => exact hr₂.elim
      | .ok .brk, hr₂ => exact hr₂.elim
      | .ok .cont, hr₂ => exact hr₂.elim
      | .ok (.ret r), ⟨e1, h', tk, c', e2, hS', hc', hk'⟩ =>
        subst e1 e2
        repeat (any_goals
              (first | assumption | wp_step))
        exact h _ _ _ hS' hc' hk'
end
end Dt
namespace Dt
open L2 PySem PySem.Spec PyProof.Rows
/-- a set of these ints -/
def SetO (w : World) (a : Addr) (ns : List Int) : HO := .ext fun h => ∃ c, SetR w h a (fun j => decide (j ∈ ns)) c ∧ c ≤ ns.length
theorem setO_new {P : Program} {w : World} {H : Hp} {h : Heap} {a : Addr} {ns : List Int} {c : Nat} (R : SetR w h a (fun j => decide (j ∈ ns)) c) (hc : c ≤ ns.length) : ObjOk P w H h a (SetO w a ns) :=
  ⟨⟨c, R, hc⟩, (by obtain ⟨o, _, _, _, e, _⟩ := R; exact ⟨o, e⟩), fun h1 h2 ⟨c', R', hc'⟩ k => ⟨c', R'.at k, hc'⟩⟩
/-- without the same ones behind each other -/
def uniqI : List Int → List Int
  | [] => []
  | [i] => [i]
  | i :: j :: r => if i = j then uniqI (j :: r) else i :: uniqI (j :: r)
theorem uniqI_mem : ∀ (l : List Int) (k : Int), k ∈ uniqI l ↔ k ∈ l
  | [], k => by simp [uniqI]
  | [i], k => by simp [uniqI]
  | i :: j :: r, k => by
    have ih := uniqI_mem (j :: r) k
    unfold uniqI
    split
    · next e =>
      subst e
      rw [ih]
      simp
    · rw [List.mem_cons, ih, List.mem_cons (a := k) (b := i)]
theorem uniqI_lt : ∀ l : List Int, l.Pairwise (· ≤ ·) → (uniqI l).Pairwise (· < ·)
  | [], _ => by simp [uniqI]
  | [i], _ => by simp [uniqI]
  | i :: j :: r, h => by
    (obtain ⟨h1, h2⟩ := List.pairwise_cons.mp h)
    have ih := uniqI_lt (j :: r) h2
    unfold uniqI
    split
    · exact ih
    · next e =>
      refine List.pairwise_cons.mpr ⟨fun y hy => ?_, ih⟩
      have hy := (uniqI_mem _ _).mp hy
      have a := h1 j List.mem_cons_self
      (rcases List.mem_cons.mp hy with rfl | hy)
      · omega
      · have b := (List.pairwise_cons.mp h2).1 y hy
        omega
theorem strict_one : ∀ (l m : List Int), (∀ k, k ∈ l ↔ k ∈ m) → l.Pairwise (· < ·) → m.Pairwise (· < ·) → l = m
  | [], [], _, _, _ => rfl
  | [], j :: m, h, _, _ => absurd ((h j).mpr List.mem_cons_self) (by simp)
  | i :: l, [], h, _, _ => absurd ((h i).mp List.mem_cons_self) (by simp)
  | i :: l, j :: m, h, hl, hm => by
    obtain ⟨l1, l2⟩ := List.pairwise_cons.mp hl
    obtain ⟨m1, m2⟩ := List.pairwise_cons.mp hm
    have e : i = j := by
      have a : i ≤ j := by
        rcases List.mem_cons.mp ((h j).mpr List.mem_cons_self) with q | q
        · omega
        · exact Int.le_of_lt (l1 j q)
      have b : j ≤ i := by
        rcases List.mem_cons.mp ((h i).mp List.mem_cons_self) with q | q
        · omega
        · exact Int.le_of_lt (m1 i q)
      omega
    subst e
    have ht : ∀ k, k ∈ l ↔ k ∈ m := fun k => ⟨fun hk => by
      rcases List.mem_cons.mp ((h k).mp (List.mem_cons_of_mem _ hk)) with q | q
      · have := l1 k hk; omega
      · exact q, fun hk => by
      rcases List.mem_cons.mp ((h k).mpr (List.mem_cons_of_mem _ hk)) with q | q
      · have := m1 k hk; omega
      · exact q⟩
    rw [strict_one l m ht l2 m2]
def rSetI (K : PySem.W.Frag) (w : World) : List V → Hp → VK → Prop := fun xs H Q => ∃ (l : Addr) (ns : List Int), xs = [.ref l] ∧ SqL K H l (ns.map V.int) ∧ ns.length < 64 ∧ ∀ p, H p = none → Q (.ref p) (upd H p (SetO w p ns))
def rSortS (w : World) : List V → Hp → VK → Prop := fun xs H Q => ∃ (a : Addr) (ns : List Int), xs = [.ref a] ∧ H a = some (SetO w a ns) ∧ ns.length < 64 ∧ ∀ p, H p = none → Q (.ref p) (upd H p (.lst ((uniqI (sortI ns)).map V.int)))
section
variable {X : Cx}
theorem cr_setI (hc : X.calm = true) : CallR X (.type "set") (rSetI X.K X.w) := by
  (intro pins s σ H xs us Q I r h)
  obtain ⟨l, ns, rfl, hl, hf, q⟩ := h
  rw [Vals.ref1 r]
  (obtain ⟨its, rv, pl, hz⟩ := I.list hl)
  refine set_of_list (P := X.prog) (w := X.w) ns (I.ok.hd hc) pl.isList (by simpa using rv.ints) (by unfold scanBound; omega) fun h' tk c R hc k => ?_
  exact ⟨.ref s.heap.objs.size, upd H s.heap.objs.size (SetO X.w s.heap.objs.size ns), I.laid (t' := tk) k (Nat.le_refl _) (setO_new R hc), rfl, q _ (I.hok.fresh (Nat.le_refl _))⟩
theorem cr_sortS (hc : X.calm = true) : CallR X (.builtin "sorted") (rSortS X.w) := by
  (intro pins s σ H vs us Q I r h)
  obtain ⟨a, ns, rfl, ha, hf, q⟩ := h
  obtain ⟨c, R, hcl⟩ : ∃ c, SetR X.w s.heap a (fun j => decide (j ∈ ns)) c ∧ c ≤ ns.length := (I.hok a _ ha).1
  rw [Vals.ref1 r]
  refine sorted_set (P := X.prog) R (I.ok.hd hc) (by omega) fun s' p out c2 ns' k g o hp hout hi hs hm hlen => ?_
  have e : ns' = uniqI (sortI ns) := strict_one _ _ (fun k => by rw [hm k, uniqI_mem, (sortI_perm ns).mem_iff]; simp) hs (uniqI_lt _ (sortI_sorted ns))
  subst e
  have hlen2 : ((uniqI (sortI ns)).map V.int).length ≤ sizeLine := by rw [List.length_map, sizeLine_eq]; omega
  (have hn : H p = none := I.hok.fresh hp)
  have hv : ∀ {us : List Value} {ms : List Int}, IntsAre us ms → Vals (ms.map V.int) us := fun h => by
    induction h with
    | nil => exact .nil
    | cons _ _ _ ih => exact .cons ⟨_, rfl⟩ ih
  have J : Inv X pins σ (upd H p (.lst ((uniqI (sortI ns)).map V.int))) { s with heap := s'.heap, gens := s'.gens, drawn := s'.drawn, toks := s'.toks } :=
    I.call (ch := []) (Un.laid k hp hn) (I.hok.laid k hp ⟨hlen2, out.toList, c2, hv hi, hout⟩) (by rw [g]; exact I.bare) (fun _ z => nomatch z)
  have es' : s' = { s with heap := s'.heap, gens := s'.gens, drawn := s'.drawn, toks := s'.toks } := by
    cases s'
    cases s
    cases o
    rfl
  rw [es']
  exact ⟨.ref p, _, J, rfl, q p hn⟩
end
/-- sorted(set(xs)) -/
def dSortSet (fr : S → M (List D × S)) : S → M (D × S) := fun s => bd (fr s) fun p => match p.1 with
  | [.lst xs] => match ints? xs with
    | some ns => if ns.length < 64 then ok (.lst ((uniqI (sortI ns)).map D.int), p.2) else none
    | none => none
  | _ => none
section
variable {X : Cx} {cl : Cl} {pos pos' p p' : Pos} {e : Expr} {fr : S → M (List D × S)}
theorem f_sortset (hc : X.calm = true) (hm : X.mg "sorted" = none) (hm2 : X.mg "set" = none) (ha : PA X [e] (TAof X.K cl fr)) (hg : Gl X "sorted" := by rfl) (hg2 : Gl X "set" := by rfl)
    (he : starEach [e] X.env = [(false, eval e X.env)] := by rfl) (he2 : starEach [.Call (.Name "set" p') [e] [] pos'] X.env = [(false, eval (.Call (.Name "set" p') [e] [] pos') X.env)] := by rfl) :
    PE X (.Call (.Name "sorted" p) [.Call (.Name "set" p') [e] [] pos'] [] pos) (TFof X.K cl (dSortSet fr)) := by
  have h1 : PE X (.Call (.Name "set" p') [e] [] pos') _ := pe_callTy (cr_setI hc) hg2 hm2 rfl ha (by decide) (by decide) he rfl
  refine iE (pe_callB (cr_sortS hc) hg hm rfl (pa_cons h1 pa_nil he2) (by decide) (by decide) he2 rfl) ?_
  rintro σ H Q ⟨w, L, sd, W, h⟩
  refine ⟨w, L, sd, W, PostA.bd botF h fun rs s1 h vs H1 st1 W1 rr => ?_⟩
  dsimp only at h
  split at h
  · next xs =>
    split at h
    · next ns hn =>
      split at h
      · next c =>
        obtain ⟨v, rfl, rv⟩ := rr.one
        cases rv with
        | lst s r =>
          rw [of_ints? hn] at r
          rw [r.ints] at s
          refine ⟨_, ns, rfl, hide_le.seq s, c, fun q nq => ⟨q, ns, rfl, upd_same, c, fun p np => ?_⟩⟩
          have sm1 := same_upd (o := SetO X.w q ns) nq
          have np1 : H1 p = none := by
            cases z : H1 p with
            | none => rfl
            | some o => rw [sm1 p o z] at np; cases np
          have W2 := W1.ext sm1
          have sm2 := same_upd (o := .lst ((uniqI (sortI ns)).map V.int)) np
          have sm : Same H1 _ := sm1.trans sm2
          have st2 : Step w L H1 (p :: L) (upd (upd H1 q (SetO X.w q ns)) p (.lst ((uniqI (sortI ns)).map V.int))) := ⟨fun b o _ _ e => sm b o e, (Step.of_same (w := w) (L := L) sm).alv, fun a ha => by
            (rcases List.mem_cons.mp ha with rfl | ha)
            · exact .inr np1
            · exact .inl ha⟩
          exact h p _ (st1.trans st2) (W1.new_ne np1) (W1.ext sm) (W1.made sm np1 (by rw [upd_same]; simp)) (own_new (O := L ++ w.O0) W2.alive np RpA.ofInts)
      · exact h.elim
    · exact h.elim
  · exact h.elim
end
end Dt
namespace Dt
open L2 PySem PySem.Spec PyProof.Rows
/-! ### the head's facts with defs of classes -/
/-- where a def stands: in the module, in a class, behind a property, behind a staticmethod or classmethod -/
inductive At where
  | fn (x : Str)
  | meth (C m : Str)
  | prop (C m : Str)
  | stat (C m : Str)
  | clsm (C m : Str)
def behind (K : PySem.W.Frag) (a : Addr) (ty : String) : Addr := match PySem.W.recIn K a ty with
  | some (.ref g :: _) => g
  | _ => 0
def At.adr (K : PySem.W.Frag) : At → Addr
  | .fn x => He.ga K x
  | .meth C m => He.ma K (He.ga K C) m
  | .prop C m => behind K (He.ma K (He.ga K C) m) "property"
  | .stat C m => behind K (He.ma K (He.ga K C) m) "staticmethod"
  | .clsm C m => behind K (He.ma K (He.ga K C) m) "classmethod"
def isBehind (K : PySem.W.Frag) (a : Addr) (ty : String) : Bool := match PySem.W.recIn K a ty with
  | some (.ref _ :: _) => true
  | _ => false
theorem behind_ok {K : PySem.W.Frag} {a : Addr} {ty : String} (h : isBehind K a ty = true) : ∃ rest, PySem.W.recIn K a ty = some (.ref (behind K a ty) :: rest) := by
  unfold isBehind at h
  split at h
  · next g rest e =>
    refine ⟨rest, ?_⟩
    unfold behind
    rw [e]
  · cases h
def At.ok (K : PySem.W.Frag) : At → Bool
  | .fn x => He.eqO (PySem.W.nsIn K mainGlobals x) (some (some (.ref (He.ga K x))))
  | .meth C m => (He.Fa.meth C m).ok K
  | .prop C m => He.eqO (PySem.W.findIn K (.ref (He.ga K C)) m) (some (some (.ref (He.ma K (He.ga K C) m)))) && (He.eqO (PySem.W.specialIn K (.ref (He.ma K (He.ga K C) m)) "__get__") (some (some (.builtin "property.__get__"))) &&
      (decide (PySem.W.takesIn K (.ref (He.ma K (He.ga K C) m)) = some true) && isBehind K (He.ma K (He.ga K C) m) "property"))
  | .stat C m => isBehind K (He.ma K (He.ga K C) m) "staticmethod"
  | .clsm C m => isBehind K (He.ma K (He.ga K C) m) "classmethod"
theorem prop_ok {K : PySem.W.Frag} {C m : Str} (h : (At.prop C m).ok K = true) : PropOf K (He.ga K C) m (He.ma K (He.ga K C) m) ((At.prop C m).adr K) := by
  obtain ⟨h1, h⟩ := He.ba h
  obtain ⟨h2, h⟩ := He.ba h
  obtain ⟨h3, h4⟩ := He.ba h
  exact ⟨He.eqO_ok h1, He.eqO_ok h2, of_decide_eq_true h3, behind_ok h4⟩
/-- one def -/
structure DefC where
  at_ : At
  name : Str
  qual : Str
  params : Arguments
  body : List Stmt
  scope : Scope
  dfl : List He.Dv := []
  kwd : List (Str × He.Dv) := []
def DefC.adr (K : PySem.W.Frag) (d : DefC) : Addr := d.at_.adr K
def DefC.dvs (K : PySem.W.Frag) (d : DefC) : List V := d.dfl.map (He.Dv.v K)
def DefC.kws (K : PySem.W.Frag) (d : DefC) : List (Str × V) := d.kwd.map fun q => (q.1, q.2.v K)
/-- what is read of a def's function object -/
def seen (K : PySem.W.Frag) (a : Addr) : He.FnW := (K.lookup a).bind fun o => match o.data with
  | .func fd => some (fd.name, fd.qualname, fd.params, fd.body, fd.scope, fd.globals, fd.closure, fd.builtins)
  | _ => none
def DefC.val (d : DefC) : He.FnW := some (d.name, d.qual, d.params, .stmts d.body, d.scope, mainGlobals, [], builtinsNs)
def DefC.ok (K : PySem.W.Frag) (d : DefC) : Bool := d.at_.ok K && (PySem.W.keepIn K (.ref (d.adr K)) && (match K.lookup (d.adr K) with
  | some o =>
        (match o.data with
    | .func fd => PySem.W.codeIn K fd.code d.qual && (He.dflB K fd.defaults (d.dvs K) && He.kwdB K fd.kwdefaults (d.kws K))
    | _ => false)
  | none => false))
theorem DefC.funD {K : PySem.W.Frag} {d : DefC} (e : seen K (d.adr K) = d.val) (c : d.ok K = true) : ∃ fd, FunD K d.name d.qual d.params d.body d.scope (d.dvs K) (d.kws K) (d.adr K) fd := by
  obtain ⟨_, c⟩ := He.ba c
  obtain ⟨kp, c⟩ := He.ba c
  unfold seen at e
  cases q : K.lookup (d.adr K) with
  | none => rw [q] at c; cases c
  | some o =>
    rw [q] at c e
    obtain ⟨oc, od, dt, osl⟩ := o
    cases dt with
    | func fd =>
      obtain ⟨a1, a2, a3, a4, a5, a6, a7, b1, b2, b3, b4, b5, b6, b7, a8⟩ := fd
      have e : (some (a1, a2, a3, a4, a5, a6, a7, a8) : He.FnW) = some (d.name, d.qual, d.params, .stmts d.body, d.scope, mainGlobals, [], builtinsNs) := e
      injection e with e
      simp only [Prod.mk.injEq] at e
      obtain ⟨rfl, rfl, rfl, rfl, rfl, rfl, rfl, rfl⟩ := e
      obtain ⟨k1, k⟩ := He.ba c
      obtain ⟨k2, k3⟩ := He.ba k
      exact ⟨_, ⟨oc, od, b1, b2, b3, b4, b5, b6, b7, osl, rfl, q, k1, He.dflB_ok k2, He.kwdB_ok k3⟩, kp⟩
    | _ => cases c
abbrev AlC : Type := Bool × List He.FnW
def obsC (fa : List He.Fa) (fn : List DefC) (ex : PySem.W.Frag → Bool) (K : PySem.W.Frag) : AlC := ((fa.all fun f => f.ok K) && ((fn.all fun d => d.ok K) && ex K), fn.map fun d => seen K (d.adr K))
def valC (fn : List DefC) : AlC := (true, fn.map DefC.val)
def SaysC (fa : List He.Fa) (fn : List DefC) (ex : PySem.W.Frag → Bool) (K : PySem.W.Frag) : Prop := obsC fa fn ex K = valC fn
def obsCG (n : Nat) (fa : List He.Fa) (fn : List DefC) (ex : PySem.W.Frag → Bool) (g : Addr → Option Obj) : AlC := obsC fa fn ex (He.frG g (He.asD g n))
def hookC (n : Nat) (fa : List He.Fa) (fn : List DefC) (ex : PySem.W.Frag → Bool) : PySem.W.Hook where
  α := AlC
  obs := fun s => obsCG n fa fn ex s.heap.get?
  val := fun _ => valC fn
  says := fun _ h => ∃ K : PySem.W.Frag, K.In h ∧ SaysC fa fn ex K
  of := fun _ _ e => ⟨_, He.frG_in, e⟩
  keeps := fun _ _ _ ⟨K, hK, c0⟩ ks => ⟨K, PySem.W.Frag.In.keeps hK ks, c0⟩
theorem obsCG_eq {n : Nat} {fa : List He.Fa} {fn : List DefC} {ex : PySem.W.Frag → Bool} {g : Addr → Option Obj} {s : Shared} (h : ∀ a, g a = s.heap.get? a) : obsCG n fa fn ex g = (hookC n fa fn ex).obs s := by
  obtain rfl : g = s.heap.get? := funext h
  rfl
section
variable {fa : List He.Fa} {fn : List DefC} {ex : PySem.W.Frag → Bool} {K : PySem.W.Frag}
theorem SaysC.b (c : SaysC fa fn ex K) : ((fa.all fun f => f.ok K) && ((fn.all fun d => d.ok K) && ex K)) = true := congrArg (fun z : AlC => z.1) c
theorem SaysC.fact (c : SaysC fa fn ex K) (i : Nat) {f : He.Fa} (h : fa[i]? = some f := by rfl) : f.ok K = true := List.all_eq_true.mp (He.ba c.b).1 f (List.mem_of_getElem? h)
theorem SaysC.facts (c : SaysC fa fn ex K) {f : He.Fa} (h : f ∈ fa) : f.ok K = true := List.all_eq_true.mp (He.ba c.b).1 f h
theorem SaysC.more (c : SaysC fa fn ex K) : ex K = true := (He.ba (He.ba c.b).2).2
theorem SaysC.ok (c : SaysC fa fn ex K) (i : Nat) {d : DefC} (h : fn[i]? = some d := by rfl) : d.ok K = true := List.all_eq_true.mp (He.ba (He.ba c.b).2).1 d (List.mem_of_getElem? h)
theorem SaysC.at_ (c : SaysC fa fn ex K) (i : Nat) {d : DefC} (h : fn[i]? = some d := by rfl) : d.at_.ok K = true := (He.ba (c.ok i h)).1
theorem SaysC.def_ (c : SaysC fa fn ex K) (i : Nat) {d : DefC} (h : fn[i]? = some d := by rfl) : ∃ fd, FunD K d.name d.qual d.params d.body d.scope (d.dvs K) (d.kws K) (d.adr K) fd := by
  have e : fn.map (fun d => seen K (d.adr K)) = fn.map DefC.val := congrArg (fun z : AlC => z.2) c
  have e2 : (fn.map fun d => seen K (d.adr K))[i]? = (fn.map DefC.val)[i]? := by rw [e]
  (rw [List.getElem?_map, List.getElem?_map, h] at e2)
  exact DefC.funD (Option.some.inj e2) (c.ok i h)
end
/-- a class's facts in a list of facts -/
theorem clsD_of {cl : Cl} {K : PySem.W.Frag} {c : Str} {names : List Str} (h : cl c = some (He.ga K c, names)) (hc : (He.Fa.cls c).ok K = true) (hn : ∀ f ∈ names, (He.Fa.noat c f).ok K = true) (nd : names.Nodup) : ClsD K cl c (He.ga K c) names :=
  ⟨h, He.cls_ok hc, fun f hf => He.noat_ok (hn f hf), nd⟩
end Dt
namespace Dt
open L2 PySem PySem.Spec PyProof.Rows
/-! ### x in xs, xs a list or a tuple of flat items -/
theorem scal_flat {K : PySem.W.Frag} {cl : Cl} {H : Hp} {v : V} {d : D} (r : Rp K cl H v d) (s : d.scal = true) : flatV v = true := by
  cases r <;> first | rfl | cases s
theorem scal_eq {K : PySem.W.Frag} {cl : Cl} {H : Hp} {v u : V} {d e : D} (r : Rp K cl H v d) (q : Rp K cl H u e) (s : d.scal = true) (t : e.scal = true) : eqV v u = PyData.eqv d.py e.py := by
  cases r <;> first | (cases s; done) | skip
  all_goals cases q <;> first | (cases t; done) | (simp [eqV, D.py, PyData.eqv])
theorem scals_flat {K : PySem.W.Frag} {cl : Cl} {H : Hp} : ∀ {vs : List V} {ds : List D}, RpA K cl H vs ds → ds.all D.scal = true → vs.all flatV = true
  | _, _, .nil, _ => rfl
  | _, _, .cons a r, h => by
    (rw [List.all_cons, Bool.and_eq_true] at h)
    rw [List.all_cons, scal_flat a h.1, scals_flat r h.2]
    rfl
theorem scals_in {K : PySem.W.Frag} {cl : Cl} {H : Hp} {v : V} {d : D} (rv : Rp K cl H v d) (sv : d.scal = true) : ∀ {vs : List V} {ds : List D}, RpA K cl H vs ds → ds.all D.scal = true → inV v vs = ((D.pys ds).any fun z => PyData.eqv z d.py)
  | _, _, .nil, _ => by rw [D.pys]; rfl
  | _, _, .cons a r, h => by
    (rw [List.all_cons, Bool.and_eq_true] at h)
    have ih := scals_in rv sv r h.2
    unfold inV at ih ⊢
    rw [D.pys, List.any_cons, List.any_cons, ih, scal_eq a rv h.1 sv]
def inA : Op2 := fun d e => match e with
  | .tup xs => if d.scal = true ∧ xs.all D.scal = true then ok (.bl ((D.pys xs).any fun z => PyData.eqv z d.py)) else none
  | e => inD d e
def ninA : Op2 := fun d e => match e with
  | .tup xs => if d.scal = true ∧ xs.all D.scal = true then ok (.bl (!(D.pys xs).any fun z => PyData.eqv z d.py)) else none
  | e => ninD d e
section
variable {X : Cx} {cl : Cl} {K : PySem.W.Frag} {f : Value → Value → Sem Value} {r r' : R2}
theorem opR_or (h : OpR X f r) (h' : OpR X f r') : OpR X f (fun x y H Q => r x y H Q ∨ r' x y H Q) := fun pins s σ H x y v u Q I rx ry q => by
  rcases q with q | q
  · (exact h pins s σ H x y v u Q I rx ry q)
  · (exact h' pins s σ H x y v u Q I rx ry q)
theorem k_inA (hu : X.A.units + 65 < cLine) : OpK X X.K cl (compareOp .In) inA := by
  obtain ⟨r, h1, h2⟩ := (k_inD (cl := cl) hu).it
  refine ⟨_, opR_or h1 op_in_seq, fun O H x y d e Q al rx ry h => ?_⟩
  cases e with
  | tup xs =>
    dsimp only [inA] at h
    split at h
    · next c =>
      cases ry with
      | tup s rs =>
        refine .inr ⟨_, _, rfl, .inr (same_sqT hide_le s), scal_flat rx c.1, scals_flat rs c.2, ?_⟩
        rw [if_neg Bool.false_ne_true, scals_in rx c.1 rs c.2]
        exact h.now (.bl _)
    · exact h.elim
  | _ => exact .inl (h2 O H x y d _ Q al rx ry h)
theorem k_ninA (hu : X.A.units + 65 < cLine) : OpK X X.K cl (compareOp .NotIn) ninA := by
  obtain ⟨r, h1, h2⟩ := (k_ninD (cl := cl) hu).it
  refine ⟨_, opR_or h1 op_notIn_seq, fun O H x y d e Q al rx ry h => ?_⟩
  cases e with
  | tup xs =>
    dsimp only [ninA] at h
    split at h
    · next c =>
      cases ry with
      | tup s rs =>
        refine .inr ⟨_, _, rfl, .inr (same_sqT hide_le s), scal_flat rx c.1, scals_flat rs c.2, ?_⟩
        rw [if_pos rfl, scals_in rx c.1 rs c.2]
        exact h.now (.bl _)
    · exact h.elim
  | _ => exact .inl (h2 O H x y d _ Q al rx ry h)
theorem u1 {k : Nat} {A : Around} (r : Room k A) : A.units + 1 < cLine := by
  have := r.un
  omega
end
/-! ### tests -/
theorem tst_of_B {K : PySem.W.Frag} {cl : Cl} {f : S → M (D × S)} : ∀ σ H Q, TTof K cl (dTst f) σ H Q → tB (TEof K cl f) σ H Q := by
  rintro σ H Q ⟨w, L, sd, W, h⟩
  refine ⟨w, L, sd, W, PostE.bd botT h fun r s1 h v H1 st1 W1 rr => ?_⟩
  cases r with
  | bl b =>
    cases rr
    exact ⟨b, rfl, h H1 st1 W1⟩
  | _ => exact h.elim
section
variable {X : Cx} {cl : Cl} {pos : Pos} {fk : S → M (D × S)} {ke : Expr}
theorem t_inDic (hu : X.A.units + 1 < cLine) (i : Nat) {x : Str} {p0 : Pos} (hk : PE X ke (TEof X.K cl fk)) (hN : X.N[i]? = some x := by rfl) (hv : Vis X.env.scope x := by first | exact Or.inl rfl | exact Or.inr (Or.inl rfl) | exact Or.inr (Or.inr rfl))
    (hd : (x == ("__debug__" : Str)) = false := by decide) (hcd : (x == ("__classdict__" : Str)) = false := by decide) (hb : behindInMarks .In (.Name x p0) = false := by rfl) : PT X (.Compare ke [.In] [.Name x p0] pos) (TTof X.K cl (dTst (dInDic i fk))) := iT (pt_cmp (pc_inDic hu i hk hN hv hd hcd) hb) tst_of_B
theorem t_ninDic (hu : X.A.units + 1 < cLine) (i : Nat) {x : Str} {p0 : Pos} (hk : PE X ke (TEof X.K cl fk)) (hN : X.N[i]? = some x := by rfl) (hv : Vis X.env.scope x := by first | exact Or.inl rfl | exact Or.inr (Or.inl rfl) | exact Or.inr (Or.inr rfl))
    (hd : (x == ("__debug__" : Str)) = false := by decide) (hcd : (x == ("__classdict__" : Str)) = false := by decide) (hb : behindInMarks .NotIn (.Name x p0) = false := by rfl) : PT X (.Compare ke [.NotIn] [.Name x p0] pos) (TTof X.K cl (dTst (dNinDic i fk))) := iT (pt_cmp (pc_ninDic hu i hk hN hv hd hcd) hb) tst_of_B
end
section
variable {X : Cx} {K : PySem.W.Frag} {cl : Cl} {pos : Pos} {a b c : Expr} {fa fb fc : S → M (D × S)} {g g' : Op2} {op op' : CmpOp}
theorem t_chain (ho : OpK X K cl (compareOp op) g) (ho' : OpK X K cl (compareOp op') g') (ha : PE X a (TEof K cl fa)) (hb : PE X b (TEof K cl fb)) (hc : PE X c (TEof K cl fc))
    (hm : lastMarks [op, op'] [b, c] = false := by with_unfolding_all rfl) : PT X (.Compare a [op, op'] [b, c] pos) (TTof K cl (dTst (dChain g g' fa fb fc))) := by
  obtain ⟨r, h1, h2⟩ := ho.it
  obtain ⟨r', h1', h2'⟩ := ho'.it
  refine iT (pt_chain h1 h1' ha hb hc hm) fun σ H Q h => ?_
  obtain ⟨w, L, sd, W, h⟩ := tst_of_B σ H Q h
  exact chain_read h2 h2' σ H _ ⟨w, L, sd, W, h⟩
end
/-! ### -a -/
def dNeg (f : S → M (D × S)) : S → M (D × S) := fun s => bd (f s) fun p => match p.1 with
  | .int i => ok (.int (-i), p.2)
  | _ => none
section
variable {X : Cx} {K : PySem.W.Frag} {cl : Cl} {pos : Pos} {e : Expr} {f : S → M (D × S)}
theorem d_neg (he : PE X e (TEof K cl f)) : PE X (.UnaryOp .USub e pos) (TEof K cl (dNeg f)) := by
  refine iE (pe_un un_neg he) ?_
  rintro σ H Q ⟨w, L, sd, W, h0⟩
  refine ⟨w, L, sd, W, PostE.bd botE h0 fun r s1 h v H1 st1 W1 rr => ?_⟩
  cases r with
  | int i =>
    cases rr
    exact ⟨i, rfl, h _ H1 st1 W1 (.int _)⟩
  | _ => exact h.elim
end
end Dt
namespace Dt
open L2 PySem PySem.Spec PyProof.Rows
/-! ### range of any ints -/
theorem lr_owner : Manifest.owners.lookup (String.ofList ['r', 'o', 't', 'a', 'r', 'e', 't', 'i', '_', 'e', 'g', 'n', 'a', 'r', 'g', 'n', 'o', 'l'].reverse) = some Manifest.sig_longrange_iterator := by kernel_rfl
theorem lr_next : Slot "longrange_iterator" "__next__" "longrange_iterator.__next__" :=
  .of (owner := "longrange_iterator") (n := "__next__") (by rw [typeLookup_type, builtinLookup_eq_fast]; kernel_rfl) (by decide +kernel) (by decide +kernel) (by decide +kernel) (by first | exact .inl (by decide +kernel) | exact .inr (by decide +kernel)) (by rw [isSubtype_type]; kernel_rfl)
theorem lr_entry : entryFor table "longrange_iterator.__next__" = some Builtin.«longrange_iterator.__next__» := entryFor_of_tree (by kernel_rfl)
theorem lr_args (a : Value) : argsOk "longrange_iterator.__next__" ⟨[a], []⟩ := by
  unfold argsOk
  rw [signature?_of (id := "longrange_iterator.__next__") (n := ['_', '_', 't', 'x', 'e', 'n', '_', '_']) (o := ['r', 'o', 't', 'a', 'r', 'e', 't', 'i', '_', 'e', 'g', 'n', 'a', 'r', 'g', 'n', 'o', 'l']) (by kernel_rfl) lr_owner]
  kernel_rfl
abbrev IsLR (h : Heap) (it : Addr) (x left step : Int) : Prop := h.get? it = some { cls := .type "longrange_iterator", dict := none, data := .fields #[rawInt x, rawInt left, rawInt step], slots := #[] }
theorem lr_meets (it : Addr) (x left step : Int) (hc0 : ¬left ≤ 0) :
    Meets (Builtin.«longrange_iterator.__next__» ⟨[.ref it], []⟩) (fun _ R s => IsLR s.heap it x left step ∧ ∀ h', IsLR h' it (x + step) (left - 1) step → Heap.SameBut it s.heap h' → R (.ok (.ret (Value.int x s.toks))) { s with heap := h', toks := s.toks + 1 }) :=
  .of_wp fun prog0 w0 A0 R0 s h => by
    (obtain ⟨hp, g, d, tk, os⟩ := s)
    obtain ⟨hl, h⟩ := h
    wp_walk
    exact ⟨_, rfl, h _ (Heap.get?_update_self _ (Heap.get?_update_self _ hl rfl) rfl) ((Heap.SameBut.update ..).trans (Heap.SameBut.update ..))⟩
theorem lr_iter : Slot "longrange_iterator" "__iter__" "longrange_iterator.__iter__" :=
  .of (owner := "longrange_iterator") (n := "__iter__") (by rw [typeLookup_type, builtinLookup_eq_fast]; kernel_rfl) (by decide +kernel) (by decide +kernel) (by decide +kernel) (by first | exact .inl (by decide +kernel) | exact .inr (by decide +kernel)) (by rw [isSubtype_type]; kernel_rfl)
theorem lr_argsI (a : Value) : argsOk "longrange_iterator.__iter__" ⟨[a], []⟩ := by
  unfold argsOk
  rw [signature?_of (id := "longrange_iterator.__iter__") (n := ['_', '_', 'r', 'e', 't', 'i', '_', '_']) (o := ['r', 'o', 't', 'a', 'r', 'e', 't', 'i', '_', 'e', 'g', 'n', 'a', 'r', 'g', 'n', 'o', 'l']) (by kernel_rfl) lr_owner]
  kernel_rfl
theorem lr_entryI : entryFor table "longrange_iterator.__iter__" = some Builtin.«dict_keyiterator.__iter__» :=
  entryFor_alias
        (id' := "dict_keyiterator.__iter__") (by kernel_rfl) (by first | rfl | decide +kernel | (unfold String.splitOn; simp +decide [String.splitOnAux])) (by decide +kernel) (by kernel_rfl)
end Dt
namespace Dt
open L2 PySem PySem.Spec PyProof.Rows
theorem lr_stop (it : Addr) (x left step : Int) (hc0 : left ≤ 0) : ∀ {prog : Program} {w : World} {A : Around} {s : Shared} {Q : Option Value → Shared → Prop} {E : Value → Shared → Prop}, A.handled = none → IsLR s.heap it x left step →
    (∀ h', Heap.ExtBut it s.heap h' → Q none { s with heap := h' }) → wpAny (model prog w) A (pyNext (.ref it)) Q E s := by
  intro prog w A s Q E hh hit hQ
  (have hT : s.TypeIs (.ref it) "longrange_iterator" := ⟨_, hit, rfl⟩)
  unfold pyNext
  refine wpAny_bind (wpAny_attempt (wpAny_callSpecial?_slot (name := Str.ofString "__next__") hT lr_next (wpAny_call_entry lr_next hT lr_entry ?_ (lr_args _))))
  (obtain ⟨hp, g, d, tk, os⟩ := s)
  unfold Builtin.«longrange_iterator.__next__»
  repeat ((fail_if_success (with_reducible show wpAny _ _ (newExc _ _ >>= _) _ _ _)); first | rw [if_pos hc0] | wp_step)
  refine wpAny_bind ?_
  simp only [newExc, newTuple]
  (refine wpAny_bind (wpAny_newObj_type ?_ (by size_fits)))
  (refine wpAny_bind (m := firstArgMember _ _) (wpAny_of_eq (a := Value.none) (by first | rfl | (simp only [firstArgMember]; rfl)) ?_))
  (refine wpAny_newObj_type ?_ (by size_fits))
  simp only [raiseNew]
  (refine wpAny_bind (wpAny_bind (wpAny_handled ?_)))
  (rw [show A.in1.handled = none from hh])
  (refine wpAny_bind (wpAny_pure (wpAny_throw ?_)))
  (refine wpAny_bind (wpAny_isInstance (T := "StopIteration") (b := true) ⟨_, Heap.get?_push_size _ rfl, rfl⟩ isSubtype_stop ?_))
  exact wpAny_pure (hQ _ (((Heap.ExtBut.refl it hp).push _).push _))
theorem lr_item {it : Addr} {x left step : Int} {prog : Program} {w : World} {A : Around} {s : Shared} {Q : Option Value → Shared → Prop} {E : Value → Shared → Prop} (hit : IsLR s.heap it x left step) (hleft : 0 < left)
    (hQ : ∀ h', IsLR h' it (x + step) (left - 1) step → Heap.SameBut it s.heap h' → Q (some (.int x s.toks)) { s with heap := h', toks := s.toks + 1 }) : wpAny (model prog w) A (pyNext (.ref it)) Q E s := by
  (have hT : s.TypeIs (.ref it) "longrange_iterator" := ⟨_, hit, rfl⟩)
  unfold pyNext
  exact wpAny_bind (wpAny_attempt (wpAny_callSpecial?_slot (name := Str.ofString "__next__") hT lr_next
    (call_meets lr_next hT lr_entry (lr_args _) (lr_meets it x left step (by omega)) ⟨hit, fun h' a b => wpAny_pure (hQ h' a b)⟩)))
theorem lr_self {it : Addr} {x left step : Int} {prog : Program} {w : World} {A : Around} {s : Shared} {Q : Value → Shared → Prop} {E : Value → Shared → Prop} (hit : IsLR s.heap it x left step) (h : Q (.ref it) s) : wpAny (model prog w) A (pyIter (.ref it)) Q E s := by
  (have hT : s.TypeIs (.ref it) "longrange_iterator" := ⟨_, hit, rfl⟩)
  refine wpAny_pyIter_slot hT lr_iter (wpAny_call_entry lr_iter hT lr_entryI ?_ (lr_argsI _))
  (show wpAny _ _ (ret (.ref it)) _ _ s)
  exact wpAny_pure ⟨_, rfl, "longrange_iterator", _, hT, lr_next.lookup, h⟩
theorem turn_lr {P : Program} {w : World} {K : PySem.W.Frag} {tg : Expr} (it : Addr) (lo : Int) (n : Nat) : Turn P w K tg (Itr lo n) [it] it (fun i h => IsLR h it (lo + (i : Nat)) ((n : Int) - (i : Nat)) 1) where
  mem := by simp
  obj := fun i h st b hb => by
    obtain rfl : b = it := by simpa using hb
    exact ⟨_, st, fun v z => by
      (have z' : Data.fields _ = Data.cell v := z)
      cases z'⟩
  keep := fun i h h' st k => k it
        (by simp) _ st
  item := by
    (intro X hP hw hK hc i pins s σ H E I hf st hg)
    subst hP hw hK
    (obtain ⟨f0, f1, f2, f3, f4, f5⟩ := hf it (by simp))
    have hg : i < n := hg
    refine lr_item st (by omega) fun h' st' sb => ?_
    (have I1 : Inv X pins σ H { s with heap := h', toks := s.toks + 1 } := I.turned (fun b o hb e => (sb.2 b hb).trans e) f0 f1 f3 f4 f5)
    refine ⟨_, rfl, go_of (s := { s with heap := h', toks := s.toks + 1 }) (n := "longrange_iterator") st' rfl rfl (by decide) ⟨.int (lo + i), H, I1, ⟨_, rfl⟩, ⟨rfl, rfl⟩, ?_, fun b hb => (hf b hb).1⟩⟩
    have e1 : lo + ((i + 1 : Nat) : Int) = lo + (i : Int) + 1 := by omega
    have e2 : (n : Int) - ((i + 1 : Nat) : Int) = (n : Int) - (i : Int) - 1 := by omega
    rw [e1, e2]
    exact st'
  done := by
    (intro X hP hw hK hc i pins s σ H E I hf st hg)
    subst hP hw hK
    (obtain ⟨f0, f1, f2, f3, f4, f5⟩ := hf it (by simp))
    exact lr_stop it _ _ _ (by have : n ≤ i := hg; omega) (I.ok.hd hc) st fun h' eb => ⟨rfl, I.turned (t' := s.toks) (fun b o hb e => eb b o hb e) f0 f1 f3 f4 f5⟩
  self := fun _ _ _ _ _ st h => lr_self st h
theorem lr_make {r : Addr} {a b c : Int} {t u v : Tok} {prog : Program} {w : World} {A : Around} {s : Shared} {Q : Value → Shared → Prop} {E : Value → Shared → Prop} (hr : IsRange s.heap r a b c t u v) (hbig : Builtin.Range.small a b c = false)
    (hQ : Q (.ref s.heap.objs.size) { s with heap := s.heap.push { cls := .type "longrange_iterator", data := .fields #[rawInt a, rawInt (Builtin.Range.rangeSize a b c), rawInt c] } }) : wpAny (model prog w) A (pyIter (.ref r)) Q E s := by
  (have hT : s.TypeIs (.ref r) "range" := ⟨_, hr, rfl⟩)
  refine wpAny_pyIter_slot hT F.slot_range_iter (call_meets F.slot_range_iter hT F.entry_range_iter (F.args_range_iter_1 _) (AutoRange.range___iter___range_0 r a b c t u v (by unfold Builtin.Range.small at hbig; simp [hbig])) ⟨hr, ?_⟩)
  (unfold Builtin.Range.small at hbig)
  (simp only [hbig, Bool.false_eq_true, if_false])
  exact ⟨"longrange_iterator", _, ⟨_, Heap.get?_push_size _ rfl, rfl⟩, lr_next.lookup, hQ⟩
section
variable {X : Cx} {tg : Expr}
/-- a range object just made, of any ints -/
theorem range_any {pins : List (Addr × Obj)} {σ : L2.St} {H : Hp} {s : Shared} {R : It → Hp → Prop} {E : Value → Shared → Prop} {lo hi : Int} {t u v : Tok} {tk : Nat} (I : Inv X pins σ H s) (q : R (Itr lo (hi - lo).toNat) H) :
    wpAny (model X.prog X.w) X.A (pyIter (.ref s.heap.objs.size)) (PIE X pins σ tg R) E { s with heap := s.heap.push { cls := .type "range", data := .fields #[.int lo t, .int hi u, .int 1 v] }, toks := tk } := by
  (have I1 : Inv X pins σ H { s with heap := s.heap.push { cls := .type "range", data := .fields #[.int lo t, .int hi u, .int 1 v] }, toks := tk } := I.kept fun b o e => Heap.get?_push_of_some _ e)
  have e2 : (((hi - lo).toNat : Nat) : Int) = Builtin.Range.rangeSize lo hi 1 := by rw [rangeSize_one]; split <;> omega
  have fp : ∀ b ∈ [(s.heap.push { cls := .type "range", data := .fields #[.int lo t, .int hi u, .int 1 v] }).objs.size], FpOk X pins H b := fun b hb => by
    rw [List.mem_singleton.mp hb]
    (exact I1.fpOk (Nat.le_refl _) (I1.hok.fresh (Nat.le_refl _)))
  cases hs : Builtin.Range.small lo hi 1 with
  | true =>
    refine wpAny_pyIter_range (IsRange.new ..) hs ⟨_, _, _, _, H, rfl, I1.kept (t' := tk) fun b o e => Heap.get?_push_of_some _ e, turn_range _ lo (hi - lo).toNat, ?_, fp, q⟩
    (show IsRangeIter _ _ (lo + ((0 : Nat) : Int) * 1) ((((hi - lo).toNat : Nat) : Int) - ((0 : Nat) : Int)) 1)
    rw [show lo + ((0 : Nat) : Int) * 1 = lo by simp, show (((hi - lo).toNat : Nat) : Int) - ((0 : Nat) : Int) = Builtin.Range.rangeSize lo hi 1 by rw [← e2]; omega]
    (exact Heap.get?_push_size _ rfl)
  | false =>
    refine lr_make (IsRange.new ..) hs ⟨_, _, _, _, H, rfl, I1.kept (t' := tk) fun b o e => Heap.get?_push_of_some _ e, turn_lr _ lo (hi - lo).toNat, ?_, fp, q⟩
    show IsLR _ _ (lo + ((0 : Nat) : Int)) ((((hi - lo).toNat : Nat) : Int) - ((0 : Nat) : Int)) 1
    rw [show lo + ((0 : Nat) : Int) = lo by simp, show (((hi - lo).toNat : Nat) : Int) - ((0 : Nat) : Int) = Builtin.Range.rangeSize lo hi 1 by rw [← e2]; omega]
    (exact Heap.get?_push_size _ rfl)
def iRgA (ta : TA) : TI := fun σ H R => ta σ H fun vs H1 => ∃ i j : Int, vs = [.int i, .int j] ∧ R (Itr i (j - i).toNat) H1
theorem pi_rangeA {a b : Expr} {ta : TA} {p pos : Pos} (hg : Gl X "range") (hm : X.mg "range" = none) (ha : PA X [a, b] ta) (hs : starEach [a, b] X.env = [(false, eval a X.env), (false, eval b X.env)] := by rfl) (hs2 : starEach [b] X.env = [(false, eval b X.env)] := by rfl) :
    PI X tg (.Call (.Name "range" p) [a, b] [] pos) (iRgA ta) := by
  (refine ⟨fun pins s σ H R I h => ?_⟩)
  refine Call_ (ld_blt I hg hm boot_range (PyProof.Rows.callWith_type1 (thn (ha.run pos pins s σ H _ I h) ?_) (by rw [hs, hs2]) (by rw [hs2]; rfl)))
  rintro us s1 ⟨vs, H1, I1, r1, i, j, rfl, q⟩
  cases r1 with
  | cons r rr =>
    cases rr with
    | cons r' rr =>
      cases rr
      obtain ⟨t, rfl⟩ := r
      obtain ⟨t', rfl⟩ := r'
      exact call_range_2 (range_any I1 q)
variable {K : PySem.W.Frag} {cl : Cl} {a b : Expr} {p pos : Pos} {fr : S → M (List D × S)}
def iRA (fr : S → M (List D × S)) : S → M (List D × S) := fun s => bd (fr s) fun p => match p.1 with
  | [.int i, .int j] => ok (rangeD i (j - i).toNat, p.2)
  | _ => none
theorem w_rangeA (hm : X.mg "range" = none) (ha : PA X [a, b] (TAof K cl fr)) (hg : Gl X "range" := by rfl) (hs : starEach [a, b] X.env = [(false, eval a X.env), (false, eval b X.env)] := by rfl) (hs2 : starEach [b] X.env = [(false, eval b X.env)] := by rfl) : PI X tg (.Call (.Name "range" p) [a, b] [] pos) (TIof K cl (iRA fr)) := by
  refine iP (pi_rangeA hg hm ha hs hs2) ?_
  rintro σ H Q ⟨w, L, sd, W, h⟩
  refine ⟨w, L, sd, W, PostA.bd botI h fun rs s1 h vs H1 st1 W1 rr => ?_⟩
  dsimp only at h
  split at h
  · obtain ⟨v, u, rfl, rv, ru⟩ := rr.two
    cases rv
    cases ru
    exact ⟨_, _, rfl, h _ H1 st1 W1 itok_rng⟩
  · exact h.elim
end
end Dt
noncomputable section
namespace Tf
open PySem PySem.Spec PyProof.Rows L2 Dt
def top (i : Nat) : Stmt := PySem.Challenge.pw_triplefree_k71_whole_greedy_by_definitio.main.body.getD i (.Pass ⟨0, 0, 0, 0⟩)
def mth (i j : Nat) : Stmt := match top i with
  | .ClassDef _ _ _ b .. => b.getD j (.Pass ⟨0, 0, 0, 0⟩)
  | s => s
def dd (a : At) (x q : Str) (s : Stmt) (dfl : List He.Dv) (kwd : List (Str × He.Dv)) : DefC := ⟨a, x, q, defArgs s, defBody s, defScope s, dfl, kwd⟩
def fn : List DefC := [dd (.fn "_wall") "_wall" "_wall" (top 0) [] [],
  dd (.fn "is_integer") "is_integer" "is_integer" (top 7) [] [("low", .non), ("high", .non)],
  dd (.fn "check_number") "check_number" "check_number" (top 8) [.int 0, .non] [],
  dd (.fn "digits_in") "digits_in" "digits_in" (top 9) [] [],
  dd (.fn "number_of") "number_of" "number_of" (top 10) [] [],
  dd (.fn "are_plain") "are_plain" "are_plain" (top 11) [] [],
  dd (.fn "power_of") "power_of" "power_of" (top 12) [] [],
  dd (.fn "member_at") "member_at" "member_at" (top 13) [] [],
  dd (.fn "rank_of") "rank_of" "rank_of" (top 14) [] [],
  dd (.fn "is_plain_number") "is_plain_number" "is_plain_number" (top 15) [] [],
  dd (.fn "base_member") "base_member" "base_member" (top 16) [] [],
  dd (.fn "in_base") "in_base" "in_base" (top 17) [] [],
  dd (.fn "base_rank") "base_rank" "base_rank" (top 18) [] [],
  dd (.fn "next_base") "next_base" "next_base" (top 19) [] [],
  dd (.fn "last_base") "last_base" "last_base" (top 20) [] [],
  dd (.fn "base_gap") "base_gap" "base_gap" (top 21) [] [],
  dd (.fn "base_sum") "base_sum" "base_sum" (top 22) [] [],
  dd (.fn "mirror") "mirror" "mirror" (top 23) [] [],
  dd (.fn "plain_pair") "plain_pair" "plain_pair" (top 24) [] [],
  dd (.fn "difference_pair") "difference_pair" "difference_pair" (top 25) [] [],
  dd (.fn "check_members") "check_members" "check_members" (top 26) [] [],
  dd (.fn "combined_digits") "combined_digits" "combined_digits" (top 27) [] [],
  dd (.fn "join") "join" "join" (top 28) [] [],
  dd (.fn "meet") "meet" "meet" (top 29) [] [],
  dd (.fn "_law_mixed") "_law_mixed" "_law_mixed" (top 32) [] [],
  dd (.fn "_law_stream") "_law_stream" "_law_stream" (top 33) [] [],
  dd (.fn "_law_draw") "_law_draw" "_law_draw" (top 34) [] [],
  dd (.fn "_law_number") "_law_number" "_law_number" (top 35) [] [],
  dd (.fn "_law_greedy") "_law_greedy" "_law_greedy" (top 36) [] [],
  dd (.fn "_law_first_right") "_law_first_right" "_law_first_right" (top 37) [] [],
  dd (.fn "_law_members_right") "_law_members_right" "_law_members_right" (top 38) [] [],
  dd (.fn "_law_between_right") "_law_between_right" "_law_between_right" (top 39) [] [],
  dd (.fn "law") "law" "law" (top 40) [] [],
  dd (.meth "Ternary" "__init__") "__init__" "Ternary.__init__" (mth 30 1) [] [],
  dd (.prop "Ternary" "digits") "digits" "Ternary.digits" (mth 30 5) [] [],
  dd (.prop "Ternary" "is_plain") "is_plain" "Ternary.is_plain" (mth 30 7) [] []]
def frees : List Str := ["isinstance", "bool", "int", "divmod", "range", "list", "len", "abs", "max", "min", "enumerate", "tuple", "sum", "sorted", "set"]
def csts : List (Str × Int) := [("MOST_POWER", 2000)]
def globs : List Str := ((["_wall", "is_integer", "check_number", "digits_in", "number_of", "are_plain", "power_of", "member_at", "rank_of", "is_plain_number", "base_member", "in_base", "base_rank", "next_base", "last_base", "base_gap", "base_sum", "mirror", "plain_pair", "difference_pair"] : List Str) ++ (["check_members", "combined_digits", "join", "meet", "_law_mixed", "_law_stream", "_law_draw", "_law_number", "_law_greedy", "_law_first_right", "_law_members_right", "_law_between_right", "law", "Ternary"] : List Str))
def clsfacts : List He.Fa := [.cls "Ternary", .mkr "Ternary", .noat "Ternary" "own_number", .noat "Ternary" "own_digits"]
def fa : List He.Fa := globs.map .glo ++ (frees.map .free ++ ((csts.map fun c => .int c.1 c.2) ++ clsfacts))
def ex (_ : PySem.W.Frag) : Bool := true
abbrev R : PySem.W.OpenRow := PySem.W.OpenLaw.row PySem.Challenge.rw_triplefree_k71_whole_greedy_by_definitio
abbrev hk : PySem.W.Hook := hookC 6 fa fn ex
def ob (s : PySem.W.SharedT) : AlC := obsCG 6 fa fn ex (HandSHeadRun.getT s)
theorem ob_eq (s : PySem.W.SharedT) : ob s = hk.obs s.abs := obsCG_eq (HandSHeadRun.getT_eq s)
def loose : List PySem.Str := ((["_wall", "SetError", "InvalidNumber", "InvalidMembers", "MOST_POWER", "is_integer", "check_number", "digits_in", "number_of", "are_plain", "power_of", "member_at", "rank_of", "is_plain_number", "base_member", "in_base", "base_rank", "next_base", "last_base", "base_gap"] : List Str) ++ (["base_sum", "mirror", "plain_pair", "difference_pair", "check_members", "combined_digits", "join", "meet", "Ternary", "_law_mixed", "_law_stream", "_law_draw", "_law_number", "_law_greedy", "_law_first_right", "_law_members_right", "_law_between_right"] : List Str))
theorem run (w : World) : HandSHeadRun.RunEq R (PySem.W.view R.prog [40]) hk ob 4000 loose w := by
  intro os
  kernel_rfl
structure Ctx (K : PySem.W.Frag) (mg : Str → Option Value) : Prop where
  says : SaysC fa fn ex K
  glo : ∀ x : Str, x ∈ globs → mg x = some (.ref (He.ga K x))
  fre : ∀ x : Str, x ∈ frees → mg x = none
  cst : ∀ c : Str × Int, c ∈ csts → ∃ t, mg c.1 = some (.int c.2 t)
theorem ctx_of {K : PySem.W.Frag} {h : Heap} {mg : Str → Option Value} (X : K.In h) (G : h.Ns mainGlobals mg) (c : SaysC fa fn ex K) : Ctx K mg :=
  ⟨c, fun x hx => He.glo_ok X G (c.facts (List.mem_append_left _ (List.mem_map.mpr ⟨x, hx, rfl⟩))),
    fun x hx => He.free_ok X G (c.facts (List.mem_append_right _ (List.mem_append_left _ (List.mem_map.mpr ⟨x, hx, rfl⟩)))),
    fun q hq => He.int_ok X G (c.facts (List.mem_append_right _ (List.mem_append_right _ (List.mem_append_left _ (List.mem_map.mpr ⟨q, hq, rfl⟩)))))⟩
def cl0 (K : PySem.W.Frag) : Cl := fun c => if c = "Ternary" then some (He.ga K "Ternary", ["own_number", "own_digits"]) else (none)
theorem cls_Ternary {K : PySem.W.Frag} (c : SaysC fa fn ex K) : ClsD K (cl0 K) "Ternary" (He.ga K "Ternary") ["own_number", "own_digits"] := clsD_of (by simp [cl0]) (c.facts (by simp [fa, clsfacts])) (fun f hf => c.facts (by
  simp only [List.mem_cons, List.not_mem_nil, or_false] at hf
  rcases hf with rfl | rfl <;> simp [fa, clsfacts])) (by decide)
/-! _wall -/
def b__wall : S → M Out := (sWhile (dTst (dC (.bl true)))
    sNil)
def f__wall : FnD := runP 1 b__wall
theorem sc__wall : FnScope ["k"] ["k"] (defScope (top 0)) := ⟨rfl, rfl, rfl, by decide +kernel, rfl, by decide +kernel, by decide +kernel⟩
abbrev D__wall (K : PySem.W.Frag) (fd : FuncData) : Prop := FunD K "_wall" "_wall" (defArgs (top 0)) (defBody (top 0)) (defScope (top 0)) [] [] (He.ga K "_wall") fd
theorem ok__wall {P : Program} {w : World} {K : PySem.W.Frag} {mg : Str → Option Value} {base : Heap} (Z : Ctx K mg) {fd : FuncData} (F : D__wall K fd) : FnG P w K mg base CX0 1 (He.ga K "_wall") fd ["k"] (spP K (cl0 K) 1 f__wall) := by
  have sc := sc__wall
  refine okP F sc rfl rfl (F := b__wall) fun cdv A outer s H E hg hr => ?_
  exact ⟨_, (s_one (s_while PassesOwn.never (d_tst d_bl)
    (s_one s_pass)))⟩
/-! is_integer -/
def b_is_integer : S → M Out := (sSeq (sIf (dOr (dNot (dTst (dIsi "int" (dVar 0)))) (dTst (dIsi "bool" (dVar 0))))
    (sRet (dC (.bl false)))
    sNil)
    (sRet (vAnd (vOr (dBin isNon (dVar 1) (dC .non)) (dBin leI (dVar 1) (dVar 0))) (vOr (dBin isNon (dVar 2) (dC .non)) (dBin leI (dVar 0) (dVar 2))))))
def f_is_integer : FnD := runP 3 b_is_integer
theorem sc_is_integer : FnScope ["value", "low", "high"] ["value", "low", "high"] (defScope (top 7)) := ⟨rfl, rfl, rfl, by decide +kernel, rfl, by decide +kernel, by decide +kernel⟩
abbrev D_is_integer (K : PySem.W.Frag) (fd : FuncData) : Prop := FunD K "is_integer" "is_integer" (defArgs (top 7)) (defBody (top 7)) (defScope (top 7)) [] [("low", V.non), ("high", V.non)] (He.ga K "is_integer") fd
theorem ok_is_integer {P : Program} {w : World} {K : PySem.W.Frag} {mg : Str → Option Value} {base : Heap} (Z : Ctx K mg) {fd : FuncData} (F : D_is_integer K fd) : FnG P w K mg base CX0 1 (He.ga K "is_integer") fd ["value", "low", "high"] (spP K (cl0 K) 3 f_is_integer) := by
  have fr_isinstance : mg "isinstance" = none := Z.fre "isinstance" (by decide)
  have fr_bool : mg "bool" = none := Z.fre "bool" (by decide)
  have fr_int : mg "int" = none := Z.fre "int" (by decide)
  have sc := sc_is_integer
  refine okP F sc rfl rfl (F := b_is_integer) fun cdv A outer s H E hg hr => ?_
  exact ⟨_, (s_cons (s_if (d_or (d_not (d_tst (d_isi (d_var 0) fr_isinstance fr_int rfl rfl))) (d_or1 (d_tst (d_isi (d_var 0) fr_isinstance fr_bool rfl rfl)))).pt
    (s_one (s_ret d_bl))
    s_nil)
    (s_one (s_ret (d_vand (d_vor (d_cmp k_is (d_var 1) d_non) (d_vone (d_cmp k_le (d_var 1) (d_var 0)))) (d_vone (d_vor (d_cmp k_is (d_var 2) d_non) (d_vone (d_cmp k_le (d_var 0) (d_var 2)))))))))⟩
/-! digits_in -/
def b_digits_in : S → M Out := (sSeq (sOwn 2 (dLst aNil))
    (sSeq (sWhile (dTst (dBin gtI (dVar 0) (dC (.int 0))))
    (sSeq (sAsg (dCall divmodN (aCons (dVar 0) (aCons (dVar 1) aNil))) (gTp (gsCons (gNm 0) (gsCons (gNm 3) gsNil))))
    (sApp 2 (dVar 3))))
    (sPub 2 (sRet (dRev (dVar 2))))))
def f_digits_in : FnD := runP 4 b_digits_in
theorem sc_digits_in : FnScope ["number", "radix", "found", "digit"] ["number", "radix"] (defScope (top 9)) := ⟨rfl, rfl, rfl, by decide +kernel, rfl, by decide +kernel, by decide +kernel⟩
abbrev D_digits_in (K : PySem.W.Frag) (fd : FuncData) : Prop := FunD K "digits_in" "digits_in" (defArgs (top 9)) (defBody (top 9)) (defScope (top 9)) [] [] (He.ga K "digits_in") fd
theorem ok_digits_in {P : Program} {w : World} {K : PySem.W.Frag} {mg : Str → Option Value} {base : Heap} (Z : Ctx K mg) {fd : FuncData} (F : D_digits_in K fd) : FnG P w K mg base CX0 1 (He.ga K "digits_in") fd ["number", "radix"] (spP K (cl0 K) 2 f_digits_in) := by
  have fr_divmod : mg "divmod" = none := Z.fre "divmod" (by decide)
  have sc := sc_digits_in
  refine okP F sc rfl rfl (F := b_digits_in) fun cdv A outer s H E hg hr => ?_
  exact ⟨_, (s_cons (s_own 2 sc.nd (f_lst d_nil))
    (s_cons (s_while PassesOwn.never (d_tcmp k_gt (d_var 0) d_int)
    (s_cons (s_asg (d_callB c_divmod fr_divmod rfl (d_cons (d_var 0) (d_cons (d_var 1) d_nil))) (g_tup rfl (gs_cons (g_name 0 sc.nd) (gs_cons (g_name 3 sc.nd) gs_nil)) 2 (gsl_cons (gsl_cons gsl_nil))))
    (s_one (s_app 2 (d_var 3)))))
    (s_pub 2 (s_one (s_ret (d_of (f_rev (d_var 2))))))))⟩
/-! number_of -/
def b_number_of : S → M Out := (sSeq (sSet 2 (dC (.int 0)))
    (sSeq (sFor (iLst (dVar 0)) (gNm 3)
    (sSet 2 (dBin addI (dBin mulI (dVar 2) (dVar 1)) (dVar 3))))
    (sRet (dVar 2))))
def f_number_of : FnD := runP 4 b_number_of
theorem sc_number_of : FnScope ["digits", "radix", "found", "digit"] ["digits", "radix"] (defScope (top 10)) := ⟨rfl, rfl, rfl, by decide +kernel, rfl, by decide +kernel, by decide +kernel⟩
abbrev D_number_of (K : PySem.W.Frag) (fd : FuncData) : Prop := FunD K "number_of" "number_of" (defArgs (top 10)) (defBody (top 10)) (defScope (top 10)) [] [] (He.ga K "number_of") fd
theorem ok_number_of {P : Program} {w : World} {K : PySem.W.Frag} {mg : Str → Option Value} {base : Heap} (Z : Ctx K mg) {fd : FuncData} (F : D_number_of K fd) : FnG P w K mg base CX0 1 (He.ga K "number_of") fd ["digits", "radix"] (spP K (cl0 K) 2 f_number_of) := by
  have sc := sc_number_of
  refine okP F sc rfl rfl (F := b_number_of) fun cdv A outer s H E hg hr => ?_
  exact ⟨_, (s_cons (s_set 2 sc.nd d_int)
    (s_cons (s_for PassesOwn.never (w_list (d_var 0)) (g_name 3 sc.nd)
    (s_one (s_set 2 sc.nd (d_op k_add (d_op k_mul (d_var 2) (d_var 1)) (d_var 3)))))
    (s_one (s_ret (d_var 2)))))⟩
/-! are_plain -/
def b_are_plain : S → M Out := (sRet (dBin ninA (dC (.int 2)) (dVar 0)))
def f_are_plain : FnD := runP 1 b_are_plain
theorem sc_are_plain : FnScope ["digits"] ["digits"] (defScope (top 11)) := ⟨rfl, rfl, rfl, by decide +kernel, rfl, by decide +kernel, by decide +kernel⟩
abbrev D_are_plain (K : PySem.W.Frag) (fd : FuncData) : Prop := FunD K "are_plain" "are_plain" (defArgs (top 11)) (defBody (top 11)) (defScope (top 11)) [] [] (He.ga K "are_plain") fd
theorem ok_are_plain {P : Program} {w : World} {K : PySem.W.Frag} {mg : Str → Option Value} {base : Heap} (Z : Ctx K mg) {fd : FuncData} (F : D_are_plain K fd) : FnG P w K mg base CX0 1 (He.ga K "are_plain") fd ["digits"] (spP K (cl0 K) 1 f_are_plain) := by
  have sc := sc_are_plain
  refine okP F sc rfl rfl (F := b_are_plain) fun cdv A outer s H E hg hr => ?_
  exact ⟨_, (s_one (s_ret (d_cmp (k_ninA (u65 hr)) d_int (d_var 0))))⟩
/-! power_of -/
def b_power_of : S → M Out := (sSeq (sSet 2 (dC (.int 1)))
    (sSeq (sFor (iR1 (aCons (dVar 1) aNil)) (gNm 3)
    (sSet 2 (dBin mulI (dVar 2) (dVar 0))))
    (sRet (dVar 2))))
def f_power_of : FnD := runP 4 b_power_of
theorem sc_power_of : FnScope ["radix", "exponent", "found", "turn"] ["radix", "exponent"] (defScope (top 12)) := ⟨rfl, rfl, rfl, by decide +kernel, rfl, by decide +kernel, by decide +kernel⟩
abbrev D_power_of (K : PySem.W.Frag) (fd : FuncData) : Prop := FunD K "power_of" "power_of" (defArgs (top 12)) (defBody (top 12)) (defScope (top 12)) [] [] (He.ga K "power_of") fd
theorem ok_power_of {P : Program} {w : World} {K : PySem.W.Frag} {mg : Str → Option Value} {base : Heap} (Z : Ctx K mg) {fd : FuncData} (F : D_power_of K fd) : FnG P w K mg base CX0 1 (He.ga K "power_of") fd ["radix", "exponent"] (spP K (cl0 K) 2 f_power_of) := by
  have fr_range : mg "range" = none := Z.fre "range" (by decide)
  have sc := sc_power_of
  refine okP F sc rfl rfl (F := b_power_of) fun cdv A outer s H E hg hr => ?_
  exact ⟨_, (s_cons (s_set 2 sc.nd d_int)
    (s_cons (s_for PassesOwn.never (w_range1 fr_range (d_cons (d_var 1) d_nil)) (g_name 3 sc.nd)
    (s_one (s_set 2 sc.nd (d_op k_mul (d_var 2) (d_var 0)))))
    (s_one (s_ret (d_var 2)))))⟩
/-! Ternary_digits -/
def b_Ternary_digits : S → M Out := (sRet (dFld "Ternary" 1 (dVar 0)))
def f_Ternary_digits : FnD := runP 1 b_Ternary_digits
theorem sc_Ternary_digits : FnScope ["self"] ["self"] (defScope (mth 30 5)) := ⟨rfl, rfl, rfl, by decide +kernel, rfl, by decide +kernel, by decide +kernel⟩
abbrev D_Ternary_digits (K : PySem.W.Frag) (fd : FuncData) : Prop := FunD K "digits" "Ternary.digits" (defArgs (mth 30 5)) (defBody (mth 30 5)) (defScope (mth 30 5)) [] [] (At.adr K (.prop "Ternary" "digits")) fd
theorem ok_Ternary_digits {P : Program} {w : World} {K : PySem.W.Frag} {mg : Str → Option Value} {base : Heap} (Z : Ctx K mg) {fd : FuncData} (F : D_Ternary_digits K fd) : FnG P w K mg base CX0 1 (At.adr K (.prop "Ternary" "digits")) fd ["self"] (spP K (cl0 K) 1 f_Ternary_digits) := by
  have kc_Ternary := cls_Ternary (K := K) Z.says
  have sc := sc_Ternary_digits
  refine okP F sc rfl rfl (F := b_Ternary_digits) fun cdv A outer s H E hg hr => ?_
  exact ⟨_, (s_one (s_ret (d_fld (j := 1) kc_Ternary (d_var 0))))⟩
/-! _law_mixed -/
def b__law_mixed : S → M Out := (sSeq (sSet 0 (dBin modI (dBin mulI (dBin addI (dBin addI (dBin modI (dVar 0) (dC (.int 2147483647))) (dBin mulI (dBin mulI (dC (.int 7919)) (dVar 1)) (dVar 1))) (dBin mulI (dC (.int 31)) (dVar 1))) (dC (.int 48271))) (dC (.int 2147483647))))
    (sRet (dBin modI (dBin mulI (dVar 0) (dBin addI (dC (.int 69621)) (dBin mulI (dC (.int 2)) (dVar 1)))) (dC (.int 2147483629)))))
def f__law_mixed : FnD := runP 2 b__law_mixed
theorem sc__law_mixed : FnScope ["_law_number_here", "_law_k"] ["_law_number_here", "_law_k"] (defScope (top 32)) := ⟨rfl, rfl, rfl, by decide +kernel, rfl, by decide +kernel, by decide +kernel⟩
abbrev D__law_mixed (K : PySem.W.Frag) (fd : FuncData) : Prop := FunD K "_law_mixed" "_law_mixed" (defArgs (top 32)) (defBody (top 32)) (defScope (top 32)) [] [] (He.ga K "_law_mixed") fd
theorem ok__law_mixed {P : Program} {w : World} {K : PySem.W.Frag} {mg : Str → Option Value} {base : Heap} (Z : Ctx K mg) {fd : FuncData} (F : D__law_mixed K fd) : FnG P w K mg base CX0 1 (He.ga K "_law_mixed") fd ["_law_number_here", "_law_k"] (spP K (cl0 K) 2 f__law_mixed) := by
  have sc := sc__law_mixed
  refine okP F sc rfl rfl (F := b__law_mixed) fun cdv A outer s H E hg hr => ?_
  exact ⟨_, (s_cons (s_set 0 sc.nd (d_op k_mod (d_op k_mul (d_op k_add (d_op k_add (d_op k_mod (d_var 0) d_int) (d_op k_mul (d_op k_mul d_int (d_var 1)) (d_var 1))) (d_op k_mul d_int (d_var 1))) d_int) d_int))
    (s_one (s_ret (d_op k_mod (d_op k_mul (d_var 0) (d_op k_add d_int (d_op k_mul d_int (d_var 1)))) d_int))))⟩
/-! _law_greedy -/
def b__law_greedy : S → M Out := (sSeq (sOwn 2 (dCall listN (aCons (dVar 0) aNil)))
    (sSeq (sOwn 3 dDic0)
    (sSeq (sFor (iR1 (aCons (dBin addI (dVar 1) (dC (.int 1))) aNil)) (gNm 4)
    (sSeq (sIf (dAnd (dTst (dBin gtI (dVar 4) (dOwnIx 2 (dNeg (dC (.int 1)))))) (dTst (dNinDic 3 (dVar 4))))
    (sApp 2 (dVar 4))
    sNil)
    (sIf (tView (dTst (dBin inD (dVar 4) (dVar 2))))
    (sForO 2 (gNm 5)
    (sDPut 3 (dBin subI (dBin mulI (dC (.int 2)) (dVar 4)) (dVar 5)) (dC (.bl true))))
    sNil)))
    (sPub 2 (sRet (dVar 2))))))
def f__law_greedy : FnD := runP 6 b__law_greedy
theorem sc__law_greedy : FnScope ["_law_start", "_law_most", "_law_found", "_law_covered", "_law_number_here", "_law_low"] ["_law_start", "_law_most"] (defScope (top 36)) := ⟨rfl, rfl, rfl, by decide +kernel, rfl, by decide +kernel, by decide +kernel⟩
abbrev D__law_greedy (K : PySem.W.Frag) (fd : FuncData) : Prop := FunD K "_law_greedy" "_law_greedy" (defArgs (top 36)) (defBody (top 36)) (defScope (top 36)) [] [] (He.ga K "_law_greedy") fd
theorem ok__law_greedy {P : Program} {w : World} {K : PySem.W.Frag} {mg : Str → Option Value} {base : Heap} (Z : Ctx K mg) {fd : FuncData} (F : D__law_greedy K fd) : FnG P w K mg base CX0 1 (He.ga K "_law_greedy") fd ["_law_start", "_law_most"] (spP K (cl0 K) 2 f__law_greedy) := by
  have fr_list : mg "list" = none := Z.fre "list" (by decide)
  have fr_range : mg "range" = none := Z.fre "range" (by decide)
  have sc := sc__law_greedy
  refine okP F sc rfl rfl (F := b__law_greedy) fun cdv A outer s H E hg hr => ?_
  exact ⟨_, (s_cons (s_own 2 sc.nd (f_callT f_list fr_list rfl (d_cons (d_var 0) d_nil)))
    (s_cons (s_own 3 sc.nd f_dic0)
    (s_cons (s_for PassesOwn.never (w_range1 fr_range (d_cons (d_op k_add (d_var 1) d_int) d_nil)) (g_name 4 sc.nd)
    (s_cons (s_if (d_and (d_tcmp k_gt (d_var 4) (d_ownIx 2 (d_neg d_int) (fun _ _ => rfl))) (d_and1 (t_ninDic (u1 hr) 3 (d_var 4)))).pt
    (s_one (s_app 2 (d_var 4)))
    s_nil)
    (s_one (s_if (t_view (d_tcmp (k_inD (u65 hr)) (d_var 4) (d_var 2)))
    (s_one (s_forO PassesOwn.never 2 (g_name 5 sc.nd)
    (s_one (s_dput (u1 hr) 3 d_bl (d_op k_sub (d_op k_mul d_int (d_var 4)) (d_var 5))))))
    s_nil))))
    (s_pub 2 (s_one (s_ret (d_var 2)))))))⟩
/-! check_number -/
def b_check_number : S → M Out := (sIf (dNot (dTst (dCallK 3 1 2 f_is_integer (fun as bs => as ++ bs) (aCons (dVar 0) aNil) (aCons (dVar 1) (aCons (dVar 2) aNil)))))
    sNever
    sNil)
def f_check_number : FnD := runP 3 b_check_number
theorem sc_check_number : FnScope ["value", "low", "high"] ["value", "low", "high"] (defScope (top 8)) := ⟨rfl, rfl, rfl, by decide +kernel, rfl, by decide +kernel, by decide +kernel⟩
abbrev D_check_number (K : PySem.W.Frag) (fd : FuncData) : Prop := FunD K "check_number" "check_number" (defArgs (top 8)) (defBody (top 8)) (defScope (top 8)) [(V.int 0), V.non] [] (He.ga K "check_number") fd
theorem ok_check_number {P : Program} {w : World} {K : PySem.W.Frag} {mg : Str → Option Value} {base : Heap} (Z : Ctx K mg) {fd : FuncData} (F : D_check_number K fd) : FnG P w K mg base CX0 2 (He.ga K "check_number") fd ["value", "low", "high"] (spP K (cl0 K) 3 f_check_number) := by
  obtain ⟨fd_is_integer, F_is_integer⟩ : ∃ fd, D_is_integer K fd := Z.says.def_ 1 (d := (dd (.fn "is_integer") "is_integer" "is_integer" (top 7) [] [("low", .non), ("high", .non)])) rfl
  have G_is_integer : FnG P w K mg base CX0 1 _ fd_is_integer ["value", "low", "high"] _ := ok_is_integer Z F_is_integer
  have m_is_integer : mg "is_integer" = some (.ref (He.ga K "is_integer")) := Z.glo "is_integer" (by decide)
  obtain ⟨mvb_is_integer_1_low_high, b_is_integer_1_low_high⟩ := F_is_integer.kbinds0 1 ["low", "high"] [] (ps := ["value", "low", "high"]) (fun as _ bs => as ++ bs) (by decide) (fun _ h => by cases h) (fun a _ b => a.append b) fun _ _ _ _ _ _ us mv ws h1 h0 h2 => match us, mv, ws, h1, h0, h2 with | [_], [], [_, _], _, _, _ => rfl
  have sc := sc_check_number
  refine okP F sc rfl rfl (F := b_check_number) fun cdv A outer s H E hg hr => ?_
  exact ⟨_, (s_one (s_if (d_not (d_tst (d_callK (ks := ["low", "high"]) (gD := (fun as bs => as ++ bs)) G_is_integer hg (hr.mono (by decide)) m_is_integer F_is_integer.kp b_is_integer_1_low_high (fun _ _ _ _ _ a b => a.append b) (d_cons (d_var 0) d_nil) (k_cons (d_var 1) (k_cons (d_var 2) k_nil)))))
    (s_one s_never)
    s_nil))⟩
/-! member_at -/
def b_member_at : S → M Out := (sRet (dCallU 2 f_number_of [] (aCons (dCallU 2 f_digits_in [] (aCons (dVar 0) (aCons (dC (.int 2)) aNil))) (aCons (dC (.int 3)) aNil))))
def f_member_at : FnD := runP 1 b_member_at
theorem sc_member_at : FnScope ["number"] ["number"] (defScope (top 13)) := ⟨rfl, rfl, rfl, by decide +kernel, rfl, by decide +kernel, by decide +kernel⟩
abbrev D_member_at (K : PySem.W.Frag) (fd : FuncData) : Prop := FunD K "member_at" "member_at" (defArgs (top 13)) (defBody (top 13)) (defScope (top 13)) [] [] (He.ga K "member_at") fd
theorem ok_member_at {P : Program} {w : World} {K : PySem.W.Frag} {mg : Str → Option Value} {base : Heap} (Z : Ctx K mg) {fd : FuncData} (F : D_member_at K fd) : FnG P w K mg base CX0 2 (He.ga K "member_at") fd ["number"] (spP K (cl0 K) 1 f_member_at) := by
  obtain ⟨fd_number_of, F_number_of⟩ : ∃ fd, D_number_of K fd := Z.says.def_ 4 (d := (dd (.fn "number_of") "number_of" "number_of" (top 10) [] [])) rfl
  have G_number_of : FnG P w K mg base CX0 1 _ fd_number_of ["digits", "radix"] _ := ok_number_of Z F_number_of
  have m_number_of : mg "number_of" = some (.ref (He.ga K "number_of")) := Z.glo "number_of" (by decide)
  obtain ⟨fd_digits_in, F_digits_in⟩ : ∃ fd, D_digits_in K fd := Z.says.def_ 3 (d := (dd (.fn "digits_in") "digits_in" "digits_in" (top 9) [] [])) rfl
  have G_digits_in : FnG P w K mg base CX0 1 _ fd_digits_in ["number", "radix"] _ := ok_digits_in Z F_digits_in
  have m_digits_in : mg "digits_in" = some (.ref (He.ga K "digits_in")) := Z.glo "digits_in" (by decide)
  have b_number_of : Binds K fd_number_of ["digits", "radix"] [] := F_number_of.bindsN fun _ _ _ _ _ _ us hl => match us, hl with | [_, _], _ => rfl
  have b_digits_in : Binds K fd_digits_in ["number", "radix"] [] := F_digits_in.bindsN fun _ _ _ _ _ _ us hl => match us, hl with | [_, _], _ => rfl
  have sc := sc_member_at
  refine okP F sc rfl rfl (F := b_member_at) fun cdv A outer s H E hg hr => ?_
  exact ⟨_, (s_one (s_ret (d_call G_number_of hg (hr.mono (by decide)) m_number_of F_number_of.kp b_number_of .nil (fun _ => .nil) (d_cons (d_call G_digits_in hg (hr.mono (by decide)) m_digits_in F_digits_in.kp b_digits_in .nil (fun _ => .nil) (d_cons (d_var 0) (d_cons d_int d_nil))) (d_cons d_int d_nil)))))⟩
/-! rank_of -/
def b_rank_of : S → M Out := (sSeq (sSet 1 (dCallU 2 f_digits_in [] (aCons (dVar 0) (aCons (dC (.int 3)) aNil))))
    (sSeq (sIf (dTst (dCallU 1 f_are_plain [] (aCons (dVar 1) aNil)))
    (sRet (dCallU 2 f_number_of [] (aCons (dVar 1) (aCons (dC (.int 2)) aNil))))
    sNil)
    (sSeq (sSet 2 (dIdx (dVar 1) (dC (.int 2))))
    (sRet (dBin mulI (dBin addI (dCallU 2 f_number_of [] (aCons (dCutL (dVar 1) partNo (partAt (dVar 2))) (aCons (dC (.int 2)) aNil))) (dC (.int 1))) (dCallU 2 f_power_of [] (aCons (dC (.int 2)) (aCons (dBin subI (dCall lenN (aCons (dVar 1) aNil)) (dVar 2)) aNil))))))))
def f_rank_of : FnD := runP 3 b_rank_of
theorem sc_rank_of : FnScope ["x", "digits", "place"] ["x"] (defScope (top 14)) := ⟨rfl, rfl, rfl, by decide +kernel, rfl, by decide +kernel, by decide +kernel⟩
abbrev D_rank_of (K : PySem.W.Frag) (fd : FuncData) : Prop := FunD K "rank_of" "rank_of" (defArgs (top 14)) (defBody (top 14)) (defScope (top 14)) [] [] (He.ga K "rank_of") fd
theorem ok_rank_of {P : Program} {w : World} {K : PySem.W.Frag} {mg : Str → Option Value} {base : Heap} (Z : Ctx K mg) {fd : FuncData} (F : D_rank_of K fd) : FnG P w K mg base CX0 2 (He.ga K "rank_of") fd ["x"] (spP K (cl0 K) 1 f_rank_of) := by
  have fr_len : mg "len" = none := Z.fre "len" (by decide)
  obtain ⟨fd_digits_in, F_digits_in⟩ : ∃ fd, D_digits_in K fd := Z.says.def_ 3 (d := (dd (.fn "digits_in") "digits_in" "digits_in" (top 9) [] [])) rfl
  have G_digits_in : FnG P w K mg base CX0 1 _ fd_digits_in ["number", "radix"] _ := ok_digits_in Z F_digits_in
  have m_digits_in : mg "digits_in" = some (.ref (He.ga K "digits_in")) := Z.glo "digits_in" (by decide)
  obtain ⟨fd_are_plain, F_are_plain⟩ : ∃ fd, D_are_plain K fd := Z.says.def_ 5 (d := (dd (.fn "are_plain") "are_plain" "are_plain" (top 11) [] [])) rfl
  have G_are_plain : FnG P w K mg base CX0 1 _ fd_are_plain ["digits"] _ := ok_are_plain Z F_are_plain
  have m_are_plain : mg "are_plain" = some (.ref (He.ga K "are_plain")) := Z.glo "are_plain" (by decide)
  obtain ⟨fd_number_of, F_number_of⟩ : ∃ fd, D_number_of K fd := Z.says.def_ 4 (d := (dd (.fn "number_of") "number_of" "number_of" (top 10) [] [])) rfl
  have G_number_of : FnG P w K mg base CX0 1 _ fd_number_of ["digits", "radix"] _ := ok_number_of Z F_number_of
  have m_number_of : mg "number_of" = some (.ref (He.ga K "number_of")) := Z.glo "number_of" (by decide)
  obtain ⟨fd_power_of, F_power_of⟩ : ∃ fd, D_power_of K fd := Z.says.def_ 6 (d := (dd (.fn "power_of") "power_of" "power_of" (top 12) [] [])) rfl
  have G_power_of : FnG P w K mg base CX0 1 _ fd_power_of ["radix", "exponent"] _ := ok_power_of Z F_power_of
  have m_power_of : mg "power_of" = some (.ref (He.ga K "power_of")) := Z.glo "power_of" (by decide)
  have b_digits_in : Binds K fd_digits_in ["number", "radix"] [] := F_digits_in.bindsN fun _ _ _ _ _ _ us hl => match us, hl with | [_, _], _ => rfl
  have b_are_plain : Binds K fd_are_plain ["digits"] [] := F_are_plain.bindsN fun _ _ _ _ _ _ us hl => match us, hl with | [_], _ => rfl
  have b_number_of : Binds K fd_number_of ["digits", "radix"] [] := F_number_of.bindsN fun _ _ _ _ _ _ us hl => match us, hl with | [_, _], _ => rfl
  have b_power_of : Binds K fd_power_of ["radix", "exponent"] [] := F_power_of.bindsN fun _ _ _ _ _ _ us hl => match us, hl with | [_, _], _ => rfl
  have sc := sc_rank_of
  refine okP F sc rfl rfl (F := b_rank_of) fun cdv A outer s H E hg hr => ?_
  exact ⟨_, (s_cons (s_set 1 sc.nd (d_call G_digits_in hg (hr.mono (by decide)) m_digits_in F_digits_in.kp b_digits_in .nil (fun _ => .nil) (d_cons (d_var 0) (d_cons d_int d_nil))))
    (s_cons (s_if (d_tst (d_call G_are_plain hg (hr.mono (by decide)) m_are_plain F_are_plain.kp b_are_plain .nil (fun _ => .nil) (d_cons (d_var 1) d_nil)))
    (s_one (s_ret (d_call G_number_of hg (hr.mono (by decide)) m_number_of F_number_of.kp b_number_of .nil (fun _ => .nil) (d_cons (d_var 1) (d_cons d_int d_nil)))))
    s_nil)
    (s_cons (s_set 2 sc.nd (d_index (u65 hr) (d_var 1) d_int))
    (s_one (s_ret (d_op k_mul (d_op k_add (d_call G_number_of hg (hr.mono (by decide)) m_number_of F_number_of.kp b_number_of .nil (fun _ => .nil) (d_cons (d_of (f_cutL (d_var 1) o_none (o_some (d_var 2)))) (d_cons d_int d_nil))) d_int) (d_call G_power_of hg (hr.mono (by decide)) m_power_of F_power_of.kp b_power_of .nil (fun _ => .nil) (d_cons d_int (d_cons (d_op k_sub (d_callB c_len fr_len rfl (d_cons (d_var 1) d_nil)) (d_var 2)) d_nil)))))))))⟩
/-! is_plain_number -/
def b_is_plain_number : S → M Out := (sRet (vAnd (dCallK 3 1 1 f_is_integer (fun as bs => as ++ (bs ++ [.non])) (aCons (dVar 0) aNil) (aCons (dC (.int 0)) aNil)) (dCallU 1 f_are_plain [] (aCons (dCallU 2 f_digits_in [] (aCons (dVar 0) (aCons (dC (.int 3)) aNil))) aNil))))
def f_is_plain_number : FnD := runP 1 b_is_plain_number
theorem sc_is_plain_number : FnScope ["value"] ["value"] (defScope (top 15)) := ⟨rfl, rfl, rfl, by decide +kernel, rfl, by decide +kernel, by decide +kernel⟩
abbrev D_is_plain_number (K : PySem.W.Frag) (fd : FuncData) : Prop := FunD K "is_plain_number" "is_plain_number" (defArgs (top 15)) (defBody (top 15)) (defScope (top 15)) [] [] (He.ga K "is_plain_number") fd
theorem ok_is_plain_number {P : Program} {w : World} {K : PySem.W.Frag} {mg : Str → Option Value} {base : Heap} (Z : Ctx K mg) {fd : FuncData} (F : D_is_plain_number K fd) : FnG P w K mg base CX0 2 (He.ga K "is_plain_number") fd ["value"] (spP K (cl0 K) 1 f_is_plain_number) := by
  obtain ⟨fd_are_plain, F_are_plain⟩ : ∃ fd, D_are_plain K fd := Z.says.def_ 5 (d := (dd (.fn "are_plain") "are_plain" "are_plain" (top 11) [] [])) rfl
  have G_are_plain : FnG P w K mg base CX0 1 _ fd_are_plain ["digits"] _ := ok_are_plain Z F_are_plain
  have m_are_plain : mg "are_plain" = some (.ref (He.ga K "are_plain")) := Z.glo "are_plain" (by decide)
  obtain ⟨fd_digits_in, F_digits_in⟩ : ∃ fd, D_digits_in K fd := Z.says.def_ 3 (d := (dd (.fn "digits_in") "digits_in" "digits_in" (top 9) [] [])) rfl
  have G_digits_in : FnG P w K mg base CX0 1 _ fd_digits_in ["number", "radix"] _ := ok_digits_in Z F_digits_in
  have m_digits_in : mg "digits_in" = some (.ref (He.ga K "digits_in")) := Z.glo "digits_in" (by decide)
  obtain ⟨fd_is_integer, F_is_integer⟩ : ∃ fd, D_is_integer K fd := Z.says.def_ 1 (d := (dd (.fn "is_integer") "is_integer" "is_integer" (top 7) [] [("low", .non), ("high", .non)])) rfl
  have G_is_integer : FnG P w K mg base CX0 1 _ fd_is_integer ["value", "low", "high"] _ := ok_is_integer Z F_is_integer
  have m_is_integer : mg "is_integer" = some (.ref (He.ga K "is_integer")) := Z.glo "is_integer" (by decide)
  have b_are_plain : Binds K fd_are_plain ["digits"] [] := F_are_plain.bindsN fun _ _ _ _ _ _ us hl => match us, hl with | [_], _ => rfl
  have b_digits_in : Binds K fd_digits_in ["number", "radix"] [] := F_digits_in.bindsN fun _ _ _ _ _ _ us hl => match us, hl with | [_, _], _ => rfl
  obtain ⟨mvb_is_integer_1_low, b_is_integer_1_low⟩ := F_is_integer.kbinds0 1 ["low"] [("high", V.non)] (ps := ["value", "low", "high"]) (fun as mz bs => as ++ (bs ++ mz)) (by decide) (by simp) (fun a m b => a.append (b.append m)) fun _ _ _ _ _ _ us mv ws h1 h0 h2 => match us, mv, ws, h1, h0, h2 with | [_], [_], [_], _, _, _ => ⟨_, _, _, _, _, _, rfl, rfl, rfl⟩
  have sc := sc_is_plain_number
  refine okP F sc rfl rfl (F := b_is_plain_number) fun cdv A outer s H E hg hr => ?_
  exact ⟨_, (s_one (s_ret (d_vand (d_callK (ks := ["low"]) (gD := (fun as bs => as ++ (bs ++ [.non]))) G_is_integer hg (hr.mono (by decide)) m_is_integer F_is_integer.kp b_is_integer_1_low (fun _ _ _ _ _ a b => a.append (b.append (.cons .non (.nil)))) (d_cons (d_var 0) d_nil) (k_cons d_int k_nil)) (d_vone (d_call G_are_plain hg (hr.mono (by decide)) m_are_plain F_are_plain.kp b_are_plain .nil (fun _ => .nil) (d_cons (d_call G_digits_in hg (hr.mono (by decide)) m_digits_in F_digits_in.kp b_digits_in .nil (fun _ => .nil) (d_cons (d_var 0) (d_cons d_int d_nil))) d_nil))))))⟩
/-! difference_pair -/
def b_difference_pair : S → M Out := (sSeq (sIf (dNot (dTst (dCallU 3 f_is_integer [.non, .non] (aCons (dVar 0) aNil))))
    sNever
    sNil)
    (sSeq (sAsg (dTup (aCons (dCall absN (aCons (dVar 0) aNil)) (aCons (dC (.int 0)) (aCons (dC (.int 0)) (aCons (dC (.int 1)) aNil))))) (gTp (gsCons (gNm 1) (gsCons (gNm 2) (gsCons (gNm 3) (gsCons (gNm 4) gsNil))))))
    (sSeq (sWhile (dTst (dBin gtI (dVar 1) (dC (.int 0))))
    (sSeq (sAsg (dCall divmodN (aCons (dVar 1) (aCons (dC (.int 3)) aNil))) (gTp (gsCons (gNm 1) (gsCons (gNm 5) gsNil))))
    (sSeq (sIf (dTst (dBin eqD (dVar 5) (dC (.int 1))))
    (sSet 2 (dBin addI (dVar 2) (dVar 4)))
    sNil)
    (sSeq (sIf (dTst (dBin eqD (dVar 5) (dC (.int 2))))
    (sPar 1 3 (aCons (dBin addI (dVar 1) (dC (.int 1))) (aCons (dBin addI (dVar 3) (dVar 4)) aNil)))
    sNil)
    (sSet 4 (dBin mulI (dVar 4) (dC (.int 3))))))))
    (sRet (dIf (dTst (dBin geI (dVar 0) (dC (.int 0)))) (dTup (aCons (dVar 2) (aCons (dVar 3) aNil))) (dTup (aCons (dVar 3) (aCons (dVar 2) aNil))))))))
def f_difference_pair : FnD := runP 6 b_difference_pair
theorem sc_difference_pair : FnScope ["d", "left", "one", "other", "power", "digit"] ["d"] (defScope (top 25)) := ⟨rfl, rfl, rfl, by decide +kernel, rfl, by decide +kernel, by decide +kernel⟩
abbrev D_difference_pair (K : PySem.W.Frag) (fd : FuncData) : Prop := FunD K "difference_pair" "difference_pair" (defArgs (top 25)) (defBody (top 25)) (defScope (top 25)) [] [] (He.ga K "difference_pair") fd
theorem ok_difference_pair {P : Program} {w : World} {K : PySem.W.Frag} {mg : Str → Option Value} {base : Heap} (Z : Ctx K mg) {fd : FuncData} (F : D_difference_pair K fd) : FnG P w K mg base CX0 2 (He.ga K "difference_pair") fd ["d"] (spP K (cl0 K) 1 f_difference_pair) := by
  have fr_abs : mg "abs" = none := Z.fre "abs" (by decide)
  have fr_divmod : mg "divmod" = none := Z.fre "divmod" (by decide)
  obtain ⟨fd_is_integer, F_is_integer⟩ : ∃ fd, D_is_integer K fd := Z.says.def_ 1 (d := (dd (.fn "is_integer") "is_integer" "is_integer" (top 7) [] [("low", .non), ("high", .non)])) rfl
  have G_is_integer : FnG P w K mg base CX0 1 _ fd_is_integer ["value", "low", "high"] _ := ok_is_integer Z F_is_integer
  have m_is_integer : mg "is_integer" = some (.ref (He.ga K "is_integer")) := Z.glo "is_integer" (by decide)
  obtain ⟨db_is_integer_1, vb_is_integer_1, b_is_integer_1⟩ : ∃ ds, Vals [V.non, V.non] ds ∧ Binds K fd_is_integer ["value", "low", "high"] ds := F_is_integer.binds0 1 (by decide) rfl fun _ _ _ _ _ _ us ks h1 h2 => match us, ks, h1, h2 with | [_], [_, _], _, _ => ⟨_, _, _, _, _, _, rfl, rfl, ⟨_, _, _, _, _, _, rfl, rfl, rfl⟩⟩
  have sc := sc_difference_pair
  refine okP F sc rfl rfl (F := b_difference_pair) fun cdv A outer s H E hg hr => ?_
  exact ⟨_, (s_cons (s_if (d_not (d_tst (d_call G_is_integer hg (hr.mono (by decide)) m_is_integer F_is_integer.kp b_is_integer_1 vb_is_integer_1 (fun _ => .cons .non (.cons .non (.nil))) (d_cons (d_var 0) d_nil))))
    (s_one s_never)
    s_nil)
    (s_cons (s_asg (d_tup (d_cons (d_callB c_abs fr_abs rfl (d_cons (d_var 0) d_nil)) (d_cons d_int (d_cons d_int (d_cons d_int d_nil))))) (g_tup rfl (gs_cons (g_name 1 sc.nd) (gs_cons (g_name 2 sc.nd) (gs_cons (g_name 3 sc.nd) (gs_cons (g_name 4 sc.nd) gs_nil)))) 4 (gsl_cons (gsl_cons (gsl_cons (gsl_cons gsl_nil))))))
    (s_cons (s_while PassesOwn.never (d_tcmp k_gt (d_var 1) d_int)
    (s_cons (s_asg (d_callB c_divmod fr_divmod rfl (d_cons (d_var 1) (d_cons d_int d_nil))) (g_tup rfl (gs_cons (g_name 1 sc.nd) (gs_cons (g_name 5 sc.nd) gs_nil)) 2 (gsl_cons (gsl_cons gsl_nil))))
    (s_cons (s_if (d_tcmp (k_eqD (u64 hr)) (d_var 5) d_int)
    (s_one (s_set 2 sc.nd (d_op k_add (d_var 2) (d_var 4))))
    s_nil)
    (s_cons (s_if (d_tcmp (k_eqD (u64 hr)) (d_var 5) d_int)
    (s_one (s_par (i := 1) (j := 3) rfl sc.nd (d_cons (d_op k_add (d_var 1) d_int) (d_cons (d_op k_add (d_var 3) (d_var 4)) d_nil))))
    s_nil)
    (s_one (s_set 4 sc.nd (d_op k_mul (d_var 4) d_int)))))))
    (s_one (s_ret (d_ifx (d_tcmp k_ge (d_var 0) d_int) (d_tup (d_cons (d_var 2) (d_cons (d_var 3) d_nil))) (d_tup (d_cons (d_var 3) (d_cons (d_var 2) d_nil)))))))))⟩
/-! combined_digits -/
def b_combined_digits : S → M Out := (sSeq (sSet 2 (dComp (iTp (dVar 0)) [3] (gNm 3) tTrue (dRev (dCallU 2 f_digits_in [] (aCons (dVar 3) (aCons (dC (.int 3)) aNil))))))
    (sSeq (sSet 4 (dCall maxN (aCons (dComp (iLst (dVar 2)) [5] (gNm 5) tTrue (dCall lenN (aCons (dVar 5) aNil))) aNil)))
    (sSeq (sOwn 6 (dLst aNil))
    (sSeq (sFor (iR1 (aCons (dVar 4) aNil)) (gNm 7)
    (sSeq (sSet 8 (dComp (iLst (dVar 2)) [5] (gNm 5) tTrue (dIf (dTst (dBin ltI (dVar 7) (dCall lenN (aCons (dVar 5) aNil)))) (dBin ixL (dVar 5) (dVar 7)) (dC (.int 0)))))
    (sApp 6 (dIf (dTst (dBin eqS (dVar 1) (dC (.str "join")))) (dCall maxN (aCons (dVar 8) aNil)) (dCall minN (aCons (dVar 8) aNil))))))
    (sPub 6 (sRet (dCallU 2 f_number_of [] (aCons (dRev (dVar 6)) (aCons (dC (.int 3)) aNil)))))))))
def f_combined_digits : FnD := runP 9 b_combined_digits
theorem sc_combined_digits : FnScope ["members", "word", "rows", "value", "size", "row", "digits", "place", "column"] ["members", "word"] (defScope (top 27)) := ⟨rfl, rfl, rfl, by decide +kernel, rfl, by decide +kernel, by decide +kernel⟩
abbrev D_combined_digits (K : PySem.W.Frag) (fd : FuncData) : Prop := FunD K "combined_digits" "combined_digits" (defArgs (top 27)) (defBody (top 27)) (defScope (top 27)) [] [] (He.ga K "combined_digits") fd
theorem ok_combined_digits {P : Program} {w : World} {K : PySem.W.Frag} {mg : Str → Option Value} {base : Heap} (Z : Ctx K mg) {fd : FuncData} (F : D_combined_digits K fd) : FnG P w K mg base CX0 2 (He.ga K "combined_digits") fd ["members", "word"] (spP K (cl0 K) 2 f_combined_digits) := by
  have fr_len : mg "len" = none := Z.fre "len" (by decide)
  have fr_max : mg "max" = none := Z.fre "max" (by decide)
  have fr_range : mg "range" = none := Z.fre "range" (by decide)
  have fr_min : mg "min" = none := Z.fre "min" (by decide)
  obtain ⟨fd_digits_in, F_digits_in⟩ : ∃ fd, D_digits_in K fd := Z.says.def_ 3 (d := (dd (.fn "digits_in") "digits_in" "digits_in" (top 9) [] [])) rfl
  have G_digits_in : FnG P w K mg base CX0 1 _ fd_digits_in ["number", "radix"] _ := ok_digits_in Z F_digits_in
  have m_digits_in : mg "digits_in" = some (.ref (He.ga K "digits_in")) := Z.glo "digits_in" (by decide)
  obtain ⟨fd_number_of, F_number_of⟩ : ∃ fd, D_number_of K fd := Z.says.def_ 4 (d := (dd (.fn "number_of") "number_of" "number_of" (top 10) [] [])) rfl
  have G_number_of : FnG P w K mg base CX0 1 _ fd_number_of ["digits", "radix"] _ := ok_number_of Z F_number_of
  have m_number_of : mg "number_of" = some (.ref (He.ga K "number_of")) := Z.glo "number_of" (by decide)
  have b_digits_in : Binds K fd_digits_in ["number", "radix"] [] := F_digits_in.bindsN fun _ _ _ _ _ _ us hl => match us, hl with | [_, _], _ => rfl
  have b_number_of : Binds K fd_number_of ["digits", "radix"] [] := F_number_of.bindsN fun _ _ _ _ _ _ us hl => match us, hl with | [_, _], _ => rfl
  have sc := sc_combined_digits
  refine okP F sc rfl rfl (F := b_combined_digits) fun cdv A outer s H E hg hr => ?_
  exact ⟨_, (s_cons (s_setLc 2 (own := [("value", 3)]) rfl sc.nd (w_tup (d_var 0)) (blkOk_by (N := ["members", "word", "rows", "value", "size", "row", "digits", "place", "column"]) (sc := defScope (top 27)) (by decide +kernel)) (fun _ _ _ _ _ => (g_name 3 sc.nd)) (fun _ _ _ _ _ => t_nil) (fun _ _ _ _ _ => (d_of (f_rev (d_call G_digits_in hg (hr.mono (by decide)) m_digits_in F_digits_in.kp b_digits_in .nil (fun _ => .nil) (d_cons (d_var 3) (d_cons d_int d_nil)))))) (by decide))
    (s_cons (s_set 4 sc.nd (d_callB (c_max rfl) fr_max rfl (d_cons (d_of (f_comp (own := [("row", 5)]) rfl sc.nd (w_list (d_var 2)) (blkOk_by (N := ["members", "word", "rows", "value", "size", "row", "digits", "place", "column"]) (sc := defScope (top 27)) (by decide +kernel)) (fun _ _ _ _ _ => (g_name 5 sc.nd)) (fun _ _ _ _ _ => t_nil) (fun _ _ _ _ _ => (d_callB c_len fr_len rfl (d_cons (d_var 5) d_nil))) (by decide))) d_nil)))
    (s_cons (s_own 6 sc.nd (f_lst d_nil))
    (s_cons (s_for PassesOwn.never (w_range1 fr_range (d_cons (d_var 4) d_nil)) (g_name 7 sc.nd)
    (s_cons (s_setLc 8 (own := [("row", 5)]) rfl sc.nd (w_list (d_var 2)) (blkOk_by (N := ["members", "word", "rows", "value", "size", "row", "digits", "place", "column"]) (sc := defScope (top 27)) (by decide +kernel)) (fun _ _ _ _ _ => (g_name 5 sc.nd)) (fun _ _ _ _ _ => t_nil) (fun _ _ _ _ _ => (d_ifx (d_tcmp k_lt (d_var 7) (d_callB c_len fr_len rfl (d_cons (d_var 5) d_nil))) (d_ixL (d_var 5) (d_var 7)) d_int)) (by decide))
    (s_one (s_app 6 (d_ifx (d_tcmp k_eqS (d_var 1) d_str) (d_callB (c_max rfl) fr_max rfl (d_cons (d_var 8) d_nil)) (d_callB (c_min rfl) fr_min rfl (d_cons (d_var 8) d_nil)))))))
    (s_pub 6 (s_one (s_ret (d_call G_number_of hg (hr.mono (by decide)) m_number_of F_number_of.kp b_number_of .nil (fun _ => .nil) (d_cons (d_of (f_rev (d_var 6))) (d_cons d_int d_nil))))))))))⟩
/-! Ternary_is_plain -/
def b_Ternary_is_plain : S → M Out := (sRet (dCallU 1 f_are_plain [] (aCons (dFld "Ternary" 1 (dVar 0)) aNil)))
def f_Ternary_is_plain : FnD := runP 1 b_Ternary_is_plain
theorem sc_Ternary_is_plain : FnScope ["self"] ["self"] (defScope (mth 30 7)) := ⟨rfl, rfl, rfl, by decide +kernel, rfl, by decide +kernel, by decide +kernel⟩
abbrev D_Ternary_is_plain (K : PySem.W.Frag) (fd : FuncData) : Prop := FunD K "is_plain" "Ternary.is_plain" (defArgs (mth 30 7)) (defBody (mth 30 7)) (defScope (mth 30 7)) [] [] (At.adr K (.prop "Ternary" "is_plain")) fd
theorem ok_Ternary_is_plain {P : Program} {w : World} {K : PySem.W.Frag} {mg : Str → Option Value} {base : Heap} (Z : Ctx K mg) {fd : FuncData} (F : D_Ternary_is_plain K fd) : FnG P w K mg base CX0 2 (At.adr K (.prop "Ternary" "is_plain")) fd ["self"] (spP K (cl0 K) 1 f_Ternary_is_plain) := by
  obtain ⟨fd_are_plain, F_are_plain⟩ : ∃ fd, D_are_plain K fd := Z.says.def_ 5 (d := (dd (.fn "are_plain") "are_plain" "are_plain" (top 11) [] [])) rfl
  have G_are_plain : FnG P w K mg base CX0 1 _ fd_are_plain ["digits"] _ := ok_are_plain Z F_are_plain
  have m_are_plain : mg "are_plain" = some (.ref (He.ga K "are_plain")) := Z.glo "are_plain" (by decide)
  have kc_Ternary := cls_Ternary (K := K) Z.says
  have b_are_plain : Binds K fd_are_plain ["digits"] [] := F_are_plain.bindsN fun _ _ _ _ _ _ us hl => match us, hl with | [_], _ => rfl
  have sc := sc_Ternary_is_plain
  refine okP F sc rfl rfl (F := b_Ternary_is_plain) fun cdv A outer s H E hg hr => ?_
  exact ⟨_, (s_one (s_ret (d_call G_are_plain hg (hr.mono (by decide)) m_are_plain F_are_plain.kp b_are_plain .nil (fun _ => .nil) (d_cons (d_fld (j := 1) kc_Ternary (d_var 0)) d_nil))))⟩
/-! _law_stream -/
def b__law_stream : S → M Out := (sRetF (dLst (aCons (dIf (dTst (dBin geI (dVar 0) (dBin powI (dC (.int 10)) (dC (.int 18))))) (dVar 0) (dC (.int 0))) (aCons (dC (.int 0)) (aCons (dCallU 2 f__law_mixed [] (aCons (dVar 0) (aCons (dVar 1) aNil))) aNil)))))
def f__law_stream : FnD := runF 2 b__law_stream
theorem sc__law_stream : FnScope ["_law_item", "_law_k"] ["_law_item", "_law_k"] (defScope (top 33)) := ⟨rfl, rfl, rfl, by decide +kernel, rfl, by decide +kernel, by decide +kernel⟩
abbrev D__law_stream (K : PySem.W.Frag) (fd : FuncData) : Prop := FunD K "_law_stream" "_law_stream" (defArgs (top 33)) (defBody (top 33)) (defScope (top 33)) [] [] (He.ga K "_law_stream") fd
theorem ok__law_stream {P : Program} {w : World} {K : PySem.W.Frag} {mg : Str → Option Value} {base : Heap} (Z : Ctx K mg) {fd : FuncData} (F : D__law_stream K fd) : FnG P w K mg base CX0 2 (He.ga K "_law_stream") fd ["_law_item", "_law_k"] (spF K (cl0 K) 2 f__law_stream) := by
  obtain ⟨fd__law_mixed, F__law_mixed⟩ : ∃ fd, D__law_mixed K fd := Z.says.def_ 24 (d := (dd (.fn "_law_mixed") "_law_mixed" "_law_mixed" (top 32) [] [])) rfl
  have G__law_mixed : FnG P w K mg base CX0 1 _ fd__law_mixed ["_law_number_here", "_law_k"] _ := ok__law_mixed Z F__law_mixed
  have m__law_mixed : mg "_law_mixed" = some (.ref (He.ga K "_law_mixed")) := Z.glo "_law_mixed" (by decide)
  have b__law_mixed : Binds K fd__law_mixed ["_law_number_here", "_law_k"] [] := F__law_mixed.bindsN fun _ _ _ _ _ _ us hl => match us, hl with | [_, _], _ => rfl
  have sc := sc__law_stream
  refine okF F sc rfl rfl (F := b__law_stream) fun cdv A outer s H E hg hr => ?_
  exact ⟨_, (s_one (s_retF (f_lst (d_cons (d_ifx (d_tcmp k_ge (d_var 0) (d_op k_pow d_int d_int)) (d_var 0) d_int) (d_cons d_int (d_cons (d_call G__law_mixed hg (hr.mono (by decide)) m__law_mixed F__law_mixed.kp b__law_mixed .nil (fun _ => .nil) (d_cons (d_var 0) (d_cons (d_var 1) d_nil))) d_nil))))))⟩
/-! _law_draw -/
def b__law_draw : S → M Out := (sSeq (sPut 0 (dC (.int 1)) (dBin addI (dOwnIx 0 (dC (.int 1))) (dC (.int 1))))
    (sSeq (sIf (dTst (dBin eqD (dOwnIx 0 (dC (.int 0))) (dC (.int 0))))
    (sRet (dBin modI (dCallU 2 f__law_mixed [] (aCons (dCallU 2 f__law_mixed [] (aCons (dOwnIx 0 (dC (.int 2))) (aCons (dOwnIx 0 (dC (.int 1))) aNil))) (aCons (dC (.int 7)) aNil))) (dVar 1)))
    sNil)
    (sSeq (sSet 2 (dBin modI (dOwnIx 0 (dC (.int 0))) (dVar 1)))
    (sSeq (sPut 0 (dC (.int 0)) (dBin divI (dOwnIx 0 (dC (.int 0))) (dVar 1)))
    (sRet (dVar 2))))))
def f__law_draw : D → List D → M (D × D) := runI 3 b__law_draw
theorem sc__law_draw : FnScope ["_law_stream_here", "_law_top", "_law_number_here"] ["_law_stream_here", "_law_top"] (defScope (top 34)) := ⟨rfl, rfl, rfl, by decide +kernel, rfl, by decide +kernel, by decide +kernel⟩
abbrev D__law_draw (K : PySem.W.Frag) (fd : FuncData) : Prop := FunD K "_law_draw" "_law_draw" (defArgs (top 34)) (defBody (top 34)) (defScope (top 34)) [] [] (He.ga K "_law_draw") fd
theorem ok__law_draw {P : Program} {w : World} {K : PySem.W.Frag} {mg : Str → Option Value} {base : Heap} (Z : Ctx K mg) {fd : FuncData} (F : D__law_draw K fd) : FnG P w K mg base CX0 2 (He.ga K "_law_draw") fd ["_law_stream_here", "_law_top"] (spI K (cl0 K) 2 f__law_draw) := by
  obtain ⟨fd__law_mixed, F__law_mixed⟩ : ∃ fd, D__law_mixed K fd := Z.says.def_ 24 (d := (dd (.fn "_law_mixed") "_law_mixed" "_law_mixed" (top 32) [] [])) rfl
  have G__law_mixed : FnG P w K mg base CX0 1 _ fd__law_mixed ["_law_number_here", "_law_k"] _ := ok__law_mixed Z F__law_mixed
  have m__law_mixed : mg "_law_mixed" = some (.ref (He.ga K "_law_mixed")) := Z.glo "_law_mixed" (by decide)
  have b__law_mixed : Binds K fd__law_mixed ["_law_number_here", "_law_k"] [] := F__law_mixed.bindsN fun _ _ _ _ _ _ us hl => match us, hl with | [_, _], _ => rfl
  have sc := sc__law_draw
  refine okI F sc rfl rfl (by decide) (F := b__law_draw) fun cdv A outer s H E hg hr => ?_
  exact ⟨_, (s_cons (s_put 0 (d_op k_add (d_ownIx 0 d_int (fun _ _ => rfl)) d_int) d_int)
    (s_cons (s_if (d_tcmp (k_eqD (u64 hr)) (d_ownIx 0 d_int (fun _ _ => rfl)) d_int)
    (s_one (s_ret (d_op k_mod (d_call G__law_mixed hg (hr.mono (by decide)) m__law_mixed F__law_mixed.kp b__law_mixed .nil (fun _ => .nil) (d_cons (d_call G__law_mixed hg (hr.mono (by decide)) m__law_mixed F__law_mixed.kp b__law_mixed .nil (fun _ => .nil) (d_cons (d_ownIx 0 d_int (fun _ _ => rfl)) (d_cons (d_ownIx 0 d_int (fun _ _ => rfl)) d_nil))) (d_cons d_int d_nil))) (d_var 1))))
    s_nil)
    (s_cons (s_set 2 sc.nd (d_op k_mod (d_ownIx 0 d_int (fun _ _ => rfl)) (d_var 1)))
    (s_cons (s_put 0 (d_op k_div (d_ownIx 0 d_int (fun _ _ => rfl)) (d_var 1)) d_int)
    (s_one (s_ret (d_var 2)))))))⟩
/-! base_member -/
def b_base_member : S → M Out := (sSeq (sExpr (dCallU 3 f_check_number [.int 0, .non] (aCons (dVar 0) aNil)))
    (sRet (dCallU 1 f_member_at [] (aCons (dVar 0) aNil))))
def f_base_member : FnD := runP 1 b_base_member
theorem sc_base_member : FnScope ["number"] ["number"] (defScope (top 16)) := ⟨rfl, rfl, rfl, by decide +kernel, rfl, by decide +kernel, by decide +kernel⟩
abbrev D_base_member (K : PySem.W.Frag) (fd : FuncData) : Prop := FunD K "base_member" "base_member" (defArgs (top 16)) (defBody (top 16)) (defScope (top 16)) [] [] (He.ga K "base_member") fd
theorem ok_base_member {P : Program} {w : World} {K : PySem.W.Frag} {mg : Str → Option Value} {base : Heap} (Z : Ctx K mg) {fd : FuncData} (F : D_base_member K fd) : FnG P w K mg base CX0 3 (He.ga K "base_member") fd ["number"] (spP K (cl0 K) 1 f_base_member) := by
  obtain ⟨fd_check_number, F_check_number⟩ : ∃ fd, D_check_number K fd := Z.says.def_ 2 (d := (dd (.fn "check_number") "check_number" "check_number" (top 8) [.int 0, .non] [])) rfl
  have G_check_number : FnG P w K mg base CX0 2 _ fd_check_number ["value", "low", "high"] _ := ok_check_number Z F_check_number
  have m_check_number : mg "check_number" = some (.ref (He.ga K "check_number")) := Z.glo "check_number" (by decide)
  obtain ⟨fd_member_at, F_member_at⟩ : ∃ fd, D_member_at K fd := Z.says.def_ 7 (d := (dd (.fn "member_at") "member_at" "member_at" (top 13) [] [])) rfl
  have G_member_at : FnG P w K mg base CX0 2 _ fd_member_at ["number"] _ := ok_member_at Z F_member_at
  have m_member_at : mg "member_at" = some (.ref (He.ga K "member_at")) := Z.glo "member_at" (by decide)
  obtain ⟨db_check_number_1, vb_check_number_1, b_check_number_1⟩ : ∃ ds, Vals [(V.int 0), V.non] ds ∧ Binds K fd_check_number ["value", "low", "high"] ds := F_check_number.binds1 1 0 (by decide) rfl fun _ _ _ _ _ _ _ us ks h1 h2 => match us, ks, h1, h2 with | [_], [_, _], _, _ => ⟨_, rfl, rfl⟩
  have b_member_at : Binds K fd_member_at ["number"] [] := F_member_at.bindsN fun _ _ _ _ _ _ us hl => match us, hl with | [_], _ => rfl
  have sc := sc_base_member
  refine okP F sc rfl rfl (F := b_base_member) fun cdv A outer s H E hg hr => ?_
  exact ⟨_, (s_cons (s_expr (d_call G_check_number hg (hr.mono (by decide)) m_check_number F_check_number.kp b_check_number_1 vb_check_number_1 (fun _ => .cons (.int 0) (.cons .non (.nil))) (d_cons (d_var 0) d_nil)))
    (s_one (s_ret (d_call G_member_at hg (hr.mono (by decide)) m_member_at F_member_at.kp b_member_at .nil (fun _ => .nil) (d_cons (d_var 0) d_nil)))))⟩
/-! in_base -/
def b_in_base : S → M Out := (sSeq (sExpr (dCallU 3 f_check_number [.int 0, .non] (aCons (dVar 0) aNil)))
    (sRet (dCallU 1 f_are_plain [] (aCons (dCallU 2 f_digits_in [] (aCons (dVar 0) (aCons (dC (.int 3)) aNil))) aNil))))
def f_in_base : FnD := runP 1 b_in_base
theorem sc_in_base : FnScope ["x"] ["x"] (defScope (top 17)) := ⟨rfl, rfl, rfl, by decide +kernel, rfl, by decide +kernel, by decide +kernel⟩
abbrev D_in_base (K : PySem.W.Frag) (fd : FuncData) : Prop := FunD K "in_base" "in_base" (defArgs (top 17)) (defBody (top 17)) (defScope (top 17)) [] [] (He.ga K "in_base") fd
theorem ok_in_base {P : Program} {w : World} {K : PySem.W.Frag} {mg : Str → Option Value} {base : Heap} (Z : Ctx K mg) {fd : FuncData} (F : D_in_base K fd) : FnG P w K mg base CX0 3 (He.ga K "in_base") fd ["x"] (spP K (cl0 K) 1 f_in_base) := by
  obtain ⟨fd_check_number, F_check_number⟩ : ∃ fd, D_check_number K fd := Z.says.def_ 2 (d := (dd (.fn "check_number") "check_number" "check_number" (top 8) [.int 0, .non] [])) rfl
  have G_check_number : FnG P w K mg base CX0 2 _ fd_check_number ["value", "low", "high"] _ := ok_check_number Z F_check_number
  have m_check_number : mg "check_number" = some (.ref (He.ga K "check_number")) := Z.glo "check_number" (by decide)
  obtain ⟨fd_are_plain, F_are_plain⟩ : ∃ fd, D_are_plain K fd := Z.says.def_ 5 (d := (dd (.fn "are_plain") "are_plain" "are_plain" (top 11) [] [])) rfl
  have G_are_plain : FnG P w K mg base CX0 1 _ fd_are_plain ["digits"] _ := ok_are_plain Z F_are_plain
  have m_are_plain : mg "are_plain" = some (.ref (He.ga K "are_plain")) := Z.glo "are_plain" (by decide)
  obtain ⟨fd_digits_in, F_digits_in⟩ : ∃ fd, D_digits_in K fd := Z.says.def_ 3 (d := (dd (.fn "digits_in") "digits_in" "digits_in" (top 9) [] [])) rfl
  have G_digits_in : FnG P w K mg base CX0 1 _ fd_digits_in ["number", "radix"] _ := ok_digits_in Z F_digits_in
  have m_digits_in : mg "digits_in" = some (.ref (He.ga K "digits_in")) := Z.glo "digits_in" (by decide)
  obtain ⟨db_check_number_1, vb_check_number_1, b_check_number_1⟩ : ∃ ds, Vals [(V.int 0), V.non] ds ∧ Binds K fd_check_number ["value", "low", "high"] ds := F_check_number.binds1 1 0 (by decide) rfl fun _ _ _ _ _ _ _ us ks h1 h2 => match us, ks, h1, h2 with | [_], [_, _], _, _ => ⟨_, rfl, rfl⟩
  have b_are_plain : Binds K fd_are_plain ["digits"] [] := F_are_plain.bindsN fun _ _ _ _ _ _ us hl => match us, hl with | [_], _ => rfl
  have b_digits_in : Binds K fd_digits_in ["number", "radix"] [] := F_digits_in.bindsN fun _ _ _ _ _ _ us hl => match us, hl with | [_, _], _ => rfl
  have sc := sc_in_base
  refine okP F sc rfl rfl (F := b_in_base) fun cdv A outer s H E hg hr => ?_
  exact ⟨_, (s_cons (s_expr (d_call G_check_number hg (hr.mono (by decide)) m_check_number F_check_number.kp b_check_number_1 vb_check_number_1 (fun _ => .cons (.int 0) (.cons .non (.nil))) (d_cons (d_var 0) d_nil)))
    (s_one (s_ret (d_call G_are_plain hg (hr.mono (by decide)) m_are_plain F_are_plain.kp b_are_plain .nil (fun _ => .nil) (d_cons (d_call G_digits_in hg (hr.mono (by decide)) m_digits_in F_digits_in.kp b_digits_in .nil (fun _ => .nil) (d_cons (d_var 0) (d_cons d_int d_nil))) d_nil)))))⟩
/-! base_rank -/
def b_base_rank : S → M Out := (sSeq (sExpr (dCallU 3 f_check_number [.int 0, .non] (aCons (dVar 0) aNil)))
    (sRet (dCallU 1 f_rank_of [] (aCons (dVar 0) aNil))))
def f_base_rank : FnD := runP 1 b_base_rank
theorem sc_base_rank : FnScope ["x"] ["x"] (defScope (top 18)) := ⟨rfl, rfl, rfl, by decide +kernel, rfl, by decide +kernel, by decide +kernel⟩
abbrev D_base_rank (K : PySem.W.Frag) (fd : FuncData) : Prop := FunD K "base_rank" "base_rank" (defArgs (top 18)) (defBody (top 18)) (defScope (top 18)) [] [] (He.ga K "base_rank") fd
theorem ok_base_rank {P : Program} {w : World} {K : PySem.W.Frag} {mg : Str → Option Value} {base : Heap} (Z : Ctx K mg) {fd : FuncData} (F : D_base_rank K fd) : FnG P w K mg base CX0 3 (He.ga K "base_rank") fd ["x"] (spP K (cl0 K) 1 f_base_rank) := by
  obtain ⟨fd_check_number, F_check_number⟩ : ∃ fd, D_check_number K fd := Z.says.def_ 2 (d := (dd (.fn "check_number") "check_number" "check_number" (top 8) [.int 0, .non] [])) rfl
  have G_check_number : FnG P w K mg base CX0 2 _ fd_check_number ["value", "low", "high"] _ := ok_check_number Z F_check_number
  have m_check_number : mg "check_number" = some (.ref (He.ga K "check_number")) := Z.glo "check_number" (by decide)
  obtain ⟨fd_rank_of, F_rank_of⟩ : ∃ fd, D_rank_of K fd := Z.says.def_ 8 (d := (dd (.fn "rank_of") "rank_of" "rank_of" (top 14) [] [])) rfl
  have G_rank_of : FnG P w K mg base CX0 2 _ fd_rank_of ["x"] _ := ok_rank_of Z F_rank_of
  have m_rank_of : mg "rank_of" = some (.ref (He.ga K "rank_of")) := Z.glo "rank_of" (by decide)
  obtain ⟨db_check_number_1, vb_check_number_1, b_check_number_1⟩ : ∃ ds, Vals [(V.int 0), V.non] ds ∧ Binds K fd_check_number ["value", "low", "high"] ds := F_check_number.binds1 1 0 (by decide) rfl fun _ _ _ _ _ _ _ us ks h1 h2 => match us, ks, h1, h2 with | [_], [_, _], _, _ => ⟨_, rfl, rfl⟩
  have b_rank_of : Binds K fd_rank_of ["x"] [] := F_rank_of.bindsN fun _ _ _ _ _ _ us hl => match us, hl with | [_], _ => rfl
  have sc := sc_base_rank
  refine okP F sc rfl rfl (F := b_base_rank) fun cdv A outer s H E hg hr => ?_
  exact ⟨_, (s_cons (s_expr (d_call G_check_number hg (hr.mono (by decide)) m_check_number F_check_number.kp b_check_number_1 vb_check_number_1 (fun _ => .cons (.int 0) (.cons .non (.nil))) (d_cons (d_var 0) d_nil)))
    (s_one (s_ret (d_call G_rank_of hg (hr.mono (by decide)) m_rank_of F_rank_of.kp b_rank_of .nil (fun _ => .nil) (d_cons (d_var 0) d_nil)))))⟩
/-! next_base -/
def b_next_base : S → M Out := (sSeq (sExpr (dCallU 3 f_check_number [.int 0, .non] (aCons (dVar 0) aNil)))
    (sRet (dCallU 1 f_member_at [] (aCons (dCallU 1 f_rank_of [] (aCons (dBin addI (dVar 0) (dC (.int 1))) aNil)) aNil))))
def f_next_base : FnD := runP 1 b_next_base
theorem sc_next_base : FnScope ["x"] ["x"] (defScope (top 19)) := ⟨rfl, rfl, rfl, by decide +kernel, rfl, by decide +kernel, by decide +kernel⟩
abbrev D_next_base (K : PySem.W.Frag) (fd : FuncData) : Prop := FunD K "next_base" "next_base" (defArgs (top 19)) (defBody (top 19)) (defScope (top 19)) [] [] (He.ga K "next_base") fd
theorem ok_next_base {P : Program} {w : World} {K : PySem.W.Frag} {mg : Str → Option Value} {base : Heap} (Z : Ctx K mg) {fd : FuncData} (F : D_next_base K fd) : FnG P w K mg base CX0 3 (He.ga K "next_base") fd ["x"] (spP K (cl0 K) 1 f_next_base) := by
  obtain ⟨fd_check_number, F_check_number⟩ : ∃ fd, D_check_number K fd := Z.says.def_ 2 (d := (dd (.fn "check_number") "check_number" "check_number" (top 8) [.int 0, .non] [])) rfl
  have G_check_number : FnG P w K mg base CX0 2 _ fd_check_number ["value", "low", "high"] _ := ok_check_number Z F_check_number
  have m_check_number : mg "check_number" = some (.ref (He.ga K "check_number")) := Z.glo "check_number" (by decide)
  obtain ⟨fd_member_at, F_member_at⟩ : ∃ fd, D_member_at K fd := Z.says.def_ 7 (d := (dd (.fn "member_at") "member_at" "member_at" (top 13) [] [])) rfl
  have G_member_at : FnG P w K mg base CX0 2 _ fd_member_at ["number"] _ := ok_member_at Z F_member_at
  have m_member_at : mg "member_at" = some (.ref (He.ga K "member_at")) := Z.glo "member_at" (by decide)
  obtain ⟨fd_rank_of, F_rank_of⟩ : ∃ fd, D_rank_of K fd := Z.says.def_ 8 (d := (dd (.fn "rank_of") "rank_of" "rank_of" (top 14) [] [])) rfl
  have G_rank_of : FnG P w K mg base CX0 2 _ fd_rank_of ["x"] _ := ok_rank_of Z F_rank_of
  have m_rank_of : mg "rank_of" = some (.ref (He.ga K "rank_of")) := Z.glo "rank_of" (by decide)
  obtain ⟨db_check_number_1, vb_check_number_1, b_check_number_1⟩ : ∃ ds, Vals [(V.int 0), V.non] ds ∧ Binds K fd_check_number ["value", "low", "high"] ds := F_check_number.binds1 1 0 (by decide) rfl fun _ _ _ _ _ _ _ us ks h1 h2 => match us, ks, h1, h2 with | [_], [_, _], _, _ => ⟨_, rfl, rfl⟩
  have b_member_at : Binds K fd_member_at ["number"] [] := F_member_at.bindsN fun _ _ _ _ _ _ us hl => match us, hl with | [_], _ => rfl
  have b_rank_of : Binds K fd_rank_of ["x"] [] := F_rank_of.bindsN fun _ _ _ _ _ _ us hl => match us, hl with | [_], _ => rfl
  have sc := sc_next_base
  refine okP F sc rfl rfl (F := b_next_base) fun cdv A outer s H E hg hr => ?_
  exact ⟨_, (s_cons (s_expr (d_call G_check_number hg (hr.mono (by decide)) m_check_number F_check_number.kp b_check_number_1 vb_check_number_1 (fun _ => .cons (.int 0) (.cons .non (.nil))) (d_cons (d_var 0) d_nil)))
    (s_one (s_ret (d_call G_member_at hg (hr.mono (by decide)) m_member_at F_member_at.kp b_member_at .nil (fun _ => .nil) (d_cons (d_call G_rank_of hg (hr.mono (by decide)) m_rank_of F_rank_of.kp b_rank_of .nil (fun _ => .nil) (d_cons (d_op k_add (d_var 0) d_int) d_nil)) d_nil)))))⟩
/-! last_base -/
def b_last_base : S → M Out := (sSeq (sExpr (dCallU 3 f_check_number [.int 0, .non] (aCons (dVar 0) aNil)))
    (sRet (dCallU 1 f_member_at [] (aCons (dBin subI (dCallU 1 f_rank_of [] (aCons (dBin addI (dVar 0) (dC (.int 1))) aNil)) (dC (.int 1))) aNil))))
def f_last_base : FnD := runP 1 b_last_base
theorem sc_last_base : FnScope ["x"] ["x"] (defScope (top 20)) := ⟨rfl, rfl, rfl, by decide +kernel, rfl, by decide +kernel, by decide +kernel⟩
abbrev D_last_base (K : PySem.W.Frag) (fd : FuncData) : Prop := FunD K "last_base" "last_base" (defArgs (top 20)) (defBody (top 20)) (defScope (top 20)) [] [] (He.ga K "last_base") fd
theorem ok_last_base {P : Program} {w : World} {K : PySem.W.Frag} {mg : Str → Option Value} {base : Heap} (Z : Ctx K mg) {fd : FuncData} (F : D_last_base K fd) : FnG P w K mg base CX0 3 (He.ga K "last_base") fd ["x"] (spP K (cl0 K) 1 f_last_base) := by
  obtain ⟨fd_check_number, F_check_number⟩ : ∃ fd, D_check_number K fd := Z.says.def_ 2 (d := (dd (.fn "check_number") "check_number" "check_number" (top 8) [.int 0, .non] [])) rfl
  have G_check_number : FnG P w K mg base CX0 2 _ fd_check_number ["value", "low", "high"] _ := ok_check_number Z F_check_number
  have m_check_number : mg "check_number" = some (.ref (He.ga K "check_number")) := Z.glo "check_number" (by decide)
  obtain ⟨fd_member_at, F_member_at⟩ : ∃ fd, D_member_at K fd := Z.says.def_ 7 (d := (dd (.fn "member_at") "member_at" "member_at" (top 13) [] [])) rfl
  have G_member_at : FnG P w K mg base CX0 2 _ fd_member_at ["number"] _ := ok_member_at Z F_member_at
  have m_member_at : mg "member_at" = some (.ref (He.ga K "member_at")) := Z.glo "member_at" (by decide)
  obtain ⟨fd_rank_of, F_rank_of⟩ : ∃ fd, D_rank_of K fd := Z.says.def_ 8 (d := (dd (.fn "rank_of") "rank_of" "rank_of" (top 14) [] [])) rfl
  have G_rank_of : FnG P w K mg base CX0 2 _ fd_rank_of ["x"] _ := ok_rank_of Z F_rank_of
  have m_rank_of : mg "rank_of" = some (.ref (He.ga K "rank_of")) := Z.glo "rank_of" (by decide)
  obtain ⟨db_check_number_1, vb_check_number_1, b_check_number_1⟩ : ∃ ds, Vals [(V.int 0), V.non] ds ∧ Binds K fd_check_number ["value", "low", "high"] ds := F_check_number.binds1 1 0 (by decide) rfl fun _ _ _ _ _ _ _ us ks h1 h2 => match us, ks, h1, h2 with | [_], [_, _], _, _ => ⟨_, rfl, rfl⟩
  have b_member_at : Binds K fd_member_at ["number"] [] := F_member_at.bindsN fun _ _ _ _ _ _ us hl => match us, hl with | [_], _ => rfl
  have b_rank_of : Binds K fd_rank_of ["x"] [] := F_rank_of.bindsN fun _ _ _ _ _ _ us hl => match us, hl with | [_], _ => rfl
  have sc := sc_last_base
  refine okP F sc rfl rfl (F := b_last_base) fun cdv A outer s H E hg hr => ?_
  exact ⟨_, (s_cons (s_expr (d_call G_check_number hg (hr.mono (by decide)) m_check_number F_check_number.kp b_check_number_1 vb_check_number_1 (fun _ => .cons (.int 0) (.cons .non (.nil))) (d_cons (d_var 0) d_nil)))
    (s_one (s_ret (d_call G_member_at hg (hr.mono (by decide)) m_member_at F_member_at.kp b_member_at .nil (fun _ => .nil) (d_cons (d_op k_sub (d_call G_rank_of hg (hr.mono (by decide)) m_rank_of F_rank_of.kp b_rank_of .nil (fun _ => .nil) (d_cons (d_op k_add (d_var 0) d_int) d_nil)) d_int) d_nil)))))⟩
/-! base_gap -/
def b_base_gap : S → M Out := (sSeq (sExpr (dCallU 3 f_check_number [.non] (aCons (dVar 0) (aCons (dC (.int 1)) aNil))))
    (sSeq (sSet 1 (dC (.int 1)))
    (sSeq (sWhile (dTst (dBin eqD (dBin modI (dVar 0) (dC (.int 2))) (dC (.int 0))))
    (sPar 0 1 (aCons (dBin divI (dVar 0) (dC (.int 2))) (aCons (dBin mulI (dVar 1) (dC (.int 3))) aNil))))
    (sRet (dBin divI (dBin addI (dVar 1) (dC (.int 1))) (dC (.int 2)))))))
def f_base_gap : FnD := runP 2 b_base_gap
theorem sc_base_gap : FnScope ["number", "found"] ["number"] (defScope (top 21)) := ⟨rfl, rfl, rfl, by decide +kernel, rfl, by decide +kernel, by decide +kernel⟩
abbrev D_base_gap (K : PySem.W.Frag) (fd : FuncData) : Prop := FunD K "base_gap" "base_gap" (defArgs (top 21)) (defBody (top 21)) (defScope (top 21)) [] [] (He.ga K "base_gap") fd
theorem ok_base_gap {P : Program} {w : World} {K : PySem.W.Frag} {mg : Str → Option Value} {base : Heap} (Z : Ctx K mg) {fd : FuncData} (F : D_base_gap K fd) : FnG P w K mg base CX0 3 (He.ga K "base_gap") fd ["number"] (spP K (cl0 K) 1 f_base_gap) := by
  obtain ⟨fd_check_number, F_check_number⟩ : ∃ fd, D_check_number K fd := Z.says.def_ 2 (d := (dd (.fn "check_number") "check_number" "check_number" (top 8) [.int 0, .non] [])) rfl
  have G_check_number : FnG P w K mg base CX0 2 _ fd_check_number ["value", "low", "high"] _ := ok_check_number Z F_check_number
  have m_check_number : mg "check_number" = some (.ref (He.ga K "check_number")) := Z.glo "check_number" (by decide)
  obtain ⟨db_check_number_2, vb_check_number_2, b_check_number_2⟩ : ∃ ds, Vals [V.non] ds ∧ Binds K fd_check_number ["value", "low", "high"] ds := F_check_number.binds1 2 1 (by decide) rfl fun _ _ _ _ _ _ _ us ks h1 h2 => match us, ks, h1, h2 with | [_, _], [_, _], _, _ => ⟨_, rfl, rfl⟩
  have sc := sc_base_gap
  refine okP F sc rfl rfl (F := b_base_gap) fun cdv A outer s H E hg hr => ?_
  exact ⟨_, (s_cons (s_expr (d_call G_check_number hg (hr.mono (by decide)) m_check_number F_check_number.kp b_check_number_2 vb_check_number_2 (fun _ => .cons .non (.nil)) (d_cons (d_var 0) (d_cons d_int d_nil))))
    (s_cons (s_set 1 sc.nd d_int)
    (s_cons (s_while PassesOwn.never (d_tcmp (k_eqD (u64 hr)) (d_op k_mod (d_var 0) d_int) d_int)
    (s_one (s_par (i := 0) (j := 1) rfl sc.nd (d_cons (d_op k_div (d_var 0) d_int) (d_cons (d_op k_mul (d_var 1) d_int) d_nil)))))
    (s_one (s_ret (d_op k_div (d_op k_add (d_var 1) d_int) d_int))))))⟩
/-! base_sum -/
def b_base_sum : S → M Out := (sSeq (sExpr (dCallU 3 f_check_number [.int 0, .non] (aCons (dVar 0) aNil)))
    (sSeq (sAsg (dTup (aCons (dC (.int 0)) (aCons (dC (.int 1)) (aCons (dC (.int 1)) aNil)))) (gTp (gsCons (gNm 1) (gsCons (gNm 2) (gsCons (gNm 3) gsNil)))))
    (sSeq (sWhile (dTst (dBin leI (dVar 2) (dVar 0)))
    (sSeq (sAsg (dCall divmodN (aCons (dVar 0) (aCons (dBin mulI (dC (.int 2)) (dVar 2)) aNil))) (gTp (gsCons (gNm 4) (gsCons (gNm 5) gsNil))))
    (sSeq (sSet 1 (dBin addI (dVar 1) (dBin mulI (dBin addI (dBin mulI (dVar 4) (dVar 2)) (dCall max2N (aCons (dC (.int 0)) (aCons (dBin subI (dVar 5) (dVar 2)) aNil)))) (dVar 3))))
    (sPar 2 3 (aCons (dBin mulI (dC (.int 2)) (dVar 2)) (aCons (dBin mulI (dC (.int 3)) (dVar 3)) aNil))))))
    (sRet (dVar 1)))))
def f_base_sum : FnD := runP 6 b_base_sum
theorem sc_base_sum : FnScope ["number", "found", "half", "power", "whole", "rest"] ["number"] (defScope (top 22)) := ⟨rfl, rfl, rfl, by decide +kernel, rfl, by decide +kernel, by decide +kernel⟩
abbrev D_base_sum (K : PySem.W.Frag) (fd : FuncData) : Prop := FunD K "base_sum" "base_sum" (defArgs (top 22)) (defBody (top 22)) (defScope (top 22)) [] [] (He.ga K "base_sum") fd
theorem ok_base_sum {P : Program} {w : World} {K : PySem.W.Frag} {mg : Str → Option Value} {base : Heap} (Z : Ctx K mg) {fd : FuncData} (F : D_base_sum K fd) : FnG P w K mg base CX0 3 (He.ga K "base_sum") fd ["number"] (spP K (cl0 K) 1 f_base_sum) := by
  have fr_divmod : mg "divmod" = none := Z.fre "divmod" (by decide)
  have fr_max : mg "max" = none := Z.fre "max" (by decide)
  obtain ⟨fd_check_number, F_check_number⟩ : ∃ fd, D_check_number K fd := Z.says.def_ 2 (d := (dd (.fn "check_number") "check_number" "check_number" (top 8) [.int 0, .non] [])) rfl
  have G_check_number : FnG P w K mg base CX0 2 _ fd_check_number ["value", "low", "high"] _ := ok_check_number Z F_check_number
  have m_check_number : mg "check_number" = some (.ref (He.ga K "check_number")) := Z.glo "check_number" (by decide)
  obtain ⟨db_check_number_1, vb_check_number_1, b_check_number_1⟩ : ∃ ds, Vals [(V.int 0), V.non] ds ∧ Binds K fd_check_number ["value", "low", "high"] ds := F_check_number.binds1 1 0 (by decide) rfl fun _ _ _ _ _ _ _ us ks h1 h2 => match us, ks, h1, h2 with | [_], [_, _], _, _ => ⟨_, rfl, rfl⟩
  have sc := sc_base_sum
  refine okP F sc rfl rfl (F := b_base_sum) fun cdv A outer s H E hg hr => ?_
  exact ⟨_, (s_cons (s_expr (d_call G_check_number hg (hr.mono (by decide)) m_check_number F_check_number.kp b_check_number_1 vb_check_number_1 (fun _ => .cons (.int 0) (.cons .non (.nil))) (d_cons (d_var 0) d_nil)))
    (s_cons (s_asg (d_tup (d_cons d_int (d_cons d_int (d_cons d_int d_nil)))) (g_tup rfl (gs_cons (g_name 1 sc.nd) (gs_cons (g_name 2 sc.nd) (gs_cons (g_name 3 sc.nd) gs_nil))) 3 (gsl_cons (gsl_cons (gsl_cons gsl_nil)))))
    (s_cons (s_while PassesOwn.never (d_tcmp k_le (d_var 2) (d_var 0))
    (s_cons (s_asg (d_callB c_divmod fr_divmod rfl (d_cons (d_var 0) (d_cons (d_op k_mul d_int (d_var 2)) d_nil))) (g_tup rfl (gs_cons (g_name 4 sc.nd) (gs_cons (g_name 5 sc.nd) gs_nil)) 2 (gsl_cons (gsl_cons gsl_nil))))
    (s_cons (s_set 1 sc.nd (d_op k_add (d_var 1) (d_op k_mul (d_op k_add (d_op k_mul (d_var 4) (d_var 2)) (d_callB (c_max2 rfl) fr_max rfl (d_cons d_int (d_cons (d_op k_sub (d_var 5) (d_var 2)) d_nil)))) (d_var 3))))
    (s_one (s_par (i := 2) (j := 3) rfl sc.nd (d_cons (d_op k_mul d_int (d_var 2)) (d_cons (d_op k_mul d_int (d_var 3)) d_nil)))))))
    (s_one (s_ret (d_var 1))))))⟩
/-! mirror -/
def b_mirror : S → M Out := (sSeq (sExpr (dCallU 3 f_check_number [] (aCons (dVar 1) (aCons (dC (.int 0)) (aCons (dC (.int 2000)) aNil)))))
    (sSeq (sSet 2 (dBin divI (dBin subI (dCallU 2 f_power_of [] (aCons (dC (.int 3)) (aCons (dVar 1) aNil))) (dC (.int 1))) (dC (.int 2))))
    (sSeq (sIf (dOr (dNot (dTst (dCallU 1 f_is_plain_number [] (aCons (dVar 0) aNil)))) (dTst (dBin gtI (dVar 0) (dVar 2))))
    sNever
    sNil)
    (sRet (dBin subI (dVar 2) (dVar 0))))))
def f_mirror : FnD := runP 3 b_mirror
theorem sc_mirror : FnScope ["x", "power", "greatest"] ["x", "power"] (defScope (top 23)) := ⟨rfl, rfl, rfl, by decide +kernel, rfl, by decide +kernel, by decide +kernel⟩
abbrev D_mirror (K : PySem.W.Frag) (fd : FuncData) : Prop := FunD K "mirror" "mirror" (defArgs (top 23)) (defBody (top 23)) (defScope (top 23)) [] [] (He.ga K "mirror") fd
theorem ok_mirror {P : Program} {w : World} {K : PySem.W.Frag} {mg : Str → Option Value} {base : Heap} (Z : Ctx K mg) {fd : FuncData} (F : D_mirror K fd) : FnG P w K mg base CX0 3 (He.ga K "mirror") fd ["x", "power"] (spP K (cl0 K) 2 f_mirror) := by
  have co_MOST_POWER : ∃ t, mg "MOST_POWER" = some (.int 2000 t) := Z.cst ("MOST_POWER", 2000) (by decide)
  obtain ⟨fd_check_number, F_check_number⟩ : ∃ fd, D_check_number K fd := Z.says.def_ 2 (d := (dd (.fn "check_number") "check_number" "check_number" (top 8) [.int 0, .non] [])) rfl
  have G_check_number : FnG P w K mg base CX0 2 _ fd_check_number ["value", "low", "high"] _ := ok_check_number Z F_check_number
  have m_check_number : mg "check_number" = some (.ref (He.ga K "check_number")) := Z.glo "check_number" (by decide)
  obtain ⟨fd_power_of, F_power_of⟩ : ∃ fd, D_power_of K fd := Z.says.def_ 6 (d := (dd (.fn "power_of") "power_of" "power_of" (top 12) [] [])) rfl
  have G_power_of : FnG P w K mg base CX0 1 _ fd_power_of ["radix", "exponent"] _ := ok_power_of Z F_power_of
  have m_power_of : mg "power_of" = some (.ref (He.ga K "power_of")) := Z.glo "power_of" (by decide)
  obtain ⟨fd_is_plain_number, F_is_plain_number⟩ : ∃ fd, D_is_plain_number K fd := Z.says.def_ 9 (d := (dd (.fn "is_plain_number") "is_plain_number" "is_plain_number" (top 15) [] [])) rfl
  have G_is_plain_number : FnG P w K mg base CX0 2 _ fd_is_plain_number ["value"] _ := ok_is_plain_number Z F_is_plain_number
  have m_is_plain_number : mg "is_plain_number" = some (.ref (He.ga K "is_plain_number")) := Z.glo "is_plain_number" (by decide)
  obtain ⟨db_check_number_3, vb_check_number_3, b_check_number_3⟩ : ∃ ds, Vals [] ds ∧ Binds K fd_check_number ["value", "low", "high"] ds := F_check_number.binds1 3 2 (by decide) rfl fun _ _ _ _ _ _ _ us ks h1 h2 => match us, ks, h1, h2 with | [_, _, _], [_, _], _, _ => ⟨_, rfl, rfl⟩
  have b_power_of : Binds K fd_power_of ["radix", "exponent"] [] := F_power_of.bindsN fun _ _ _ _ _ _ us hl => match us, hl with | [_, _], _ => rfl
  have b_is_plain_number : Binds K fd_is_plain_number ["value"] [] := F_is_plain_number.bindsN fun _ _ _ _ _ _ us hl => match us, hl with | [_], _ => rfl
  have sc := sc_mirror
  refine okP F sc rfl rfl (F := b_mirror) fun cdv A outer s H E hg hr => ?_
  exact ⟨_, (s_cons (s_expr (d_call G_check_number hg (hr.mono (by decide)) m_check_number F_check_number.kp b_check_number_3 vb_check_number_3 (fun _ => .nil) (d_cons (d_var 1) (d_cons d_int (d_cons (d_gint co_MOST_POWER) d_nil)))))
    (s_cons (s_set 2 sc.nd (d_op k_div (d_op k_sub (d_call G_power_of hg (hr.mono (by decide)) m_power_of F_power_of.kp b_power_of .nil (fun _ => .nil) (d_cons d_int (d_cons (d_var 1) d_nil))) d_int) d_int))
    (s_cons (s_if (d_or (d_not (d_tst (d_call G_is_plain_number hg (hr.mono (by decide)) m_is_plain_number F_is_plain_number.kp b_is_plain_number .nil (fun _ => .nil) (d_cons (d_var 0) d_nil)))) (d_or1 (d_tcmp k_gt (d_var 0) (d_var 2)))).pt
    (s_one s_never)
    s_nil)
    (s_one (s_ret (d_op k_sub (d_var 2) (d_var 0)))))))⟩
/-! plain_pair -/
def b_plain_pair : S → M Out := (sSeq (sExpr (dCallU 3 f_check_number [.int 0, .non] (aCons (dVar 0) aNil)))
    (sSeq (sSet 1 (dCallU 2 f_digits_in [] (aCons (dVar 0) (aCons (dC (.int 3)) aNil))))
    (sSeq (sPar 2 3 (aCons (dComp (iLst (dVar 1)) [4] (gNm 4) tTrue (dCall intN (aCons (dBin eqD (dVar 4) (dC (.int 1))) aNil))) (aCons (dComp (iLst (dVar 1)) [4] (gNm 4) tTrue (dCall intN (aCons (dBin gtI (dVar 4) (dC (.int 0))) aNil))) aNil)))
    (sRet (dTup (aCons (dCallU 2 f_number_of [] (aCons (dVar 2) (aCons (dC (.int 3)) aNil))) (aCons (dCallU 2 f_number_of [] (aCons (dVar 3) (aCons (dC (.int 3)) aNil))) aNil)))))))
def f_plain_pair : FnD := runP 5 b_plain_pair
theorem sc_plain_pair : FnScope ["m", "digits", "lower", "upper", "digit"] ["m"] (defScope (top 24)) := ⟨rfl, rfl, rfl, by decide +kernel, rfl, by decide +kernel, by decide +kernel⟩
abbrev D_plain_pair (K : PySem.W.Frag) (fd : FuncData) : Prop := FunD K "plain_pair" "plain_pair" (defArgs (top 24)) (defBody (top 24)) (defScope (top 24)) [] [] (He.ga K "plain_pair") fd
theorem ok_plain_pair {P : Program} {w : World} {K : PySem.W.Frag} {mg : Str → Option Value} {base : Heap} (Z : Ctx K mg) {fd : FuncData} (F : D_plain_pair K fd) : FnG P w K mg base CX0 3 (He.ga K "plain_pair") fd ["m"] (spP K (cl0 K) 1 f_plain_pair) := by
  have fr_int : mg "int" = none := Z.fre "int" (by decide)
  obtain ⟨fd_check_number, F_check_number⟩ : ∃ fd, D_check_number K fd := Z.says.def_ 2 (d := (dd (.fn "check_number") "check_number" "check_number" (top 8) [.int 0, .non] [])) rfl
  have G_check_number : FnG P w K mg base CX0 2 _ fd_check_number ["value", "low", "high"] _ := ok_check_number Z F_check_number
  have m_check_number : mg "check_number" = some (.ref (He.ga K "check_number")) := Z.glo "check_number" (by decide)
  obtain ⟨fd_digits_in, F_digits_in⟩ : ∃ fd, D_digits_in K fd := Z.says.def_ 3 (d := (dd (.fn "digits_in") "digits_in" "digits_in" (top 9) [] [])) rfl
  have G_digits_in : FnG P w K mg base CX0 1 _ fd_digits_in ["number", "radix"] _ := ok_digits_in Z F_digits_in
  have m_digits_in : mg "digits_in" = some (.ref (He.ga K "digits_in")) := Z.glo "digits_in" (by decide)
  obtain ⟨fd_number_of, F_number_of⟩ : ∃ fd, D_number_of K fd := Z.says.def_ 4 (d := (dd (.fn "number_of") "number_of" "number_of" (top 10) [] [])) rfl
  have G_number_of : FnG P w K mg base CX0 1 _ fd_number_of ["digits", "radix"] _ := ok_number_of Z F_number_of
  have m_number_of : mg "number_of" = some (.ref (He.ga K "number_of")) := Z.glo "number_of" (by decide)
  obtain ⟨db_check_number_1, vb_check_number_1, b_check_number_1⟩ : ∃ ds, Vals [(V.int 0), V.non] ds ∧ Binds K fd_check_number ["value", "low", "high"] ds := F_check_number.binds1 1 0 (by decide) rfl fun _ _ _ _ _ _ _ us ks h1 h2 => match us, ks, h1, h2 with | [_], [_, _], _, _ => ⟨_, rfl, rfl⟩
  have b_digits_in : Binds K fd_digits_in ["number", "radix"] [] := F_digits_in.bindsN fun _ _ _ _ _ _ us hl => match us, hl with | [_, _], _ => rfl
  have b_number_of : Binds K fd_number_of ["digits", "radix"] [] := F_number_of.bindsN fun _ _ _ _ _ _ us hl => match us, hl with | [_, _], _ => rfl
  have sc := sc_plain_pair
  refine okP F sc rfl rfl (F := b_plain_pair) fun cdv A outer s H E hg hr => ?_
  exact ⟨_, (s_cons (s_expr (d_call G_check_number hg (hr.mono (by decide)) m_check_number F_check_number.kp b_check_number_1 vb_check_number_1 (fun _ => .cons (.int 0) (.cons .non (.nil))) (d_cons (d_var 0) d_nil)))
    (s_cons (s_set 1 sc.nd (d_call G_digits_in hg (hr.mono (by decide)) m_digits_in F_digits_in.kp b_digits_in .nil (fun _ => .nil) (d_cons (d_var 0) (d_cons d_int d_nil))))
    (s_cons (s_par (i := 2) (j := 3) rfl sc.nd (d_cons (d_of (f_comp (own := [("digit", 4)]) rfl sc.nd (w_list (d_var 1)) (blkOk_by (N := ["m", "digits", "lower", "upper", "digit"]) (sc := defScope (top 24)) (by decide +kernel)) (fun _ _ _ _ _ => (g_name 4 sc.nd)) (fun _ _ _ _ _ => t_nil) (fun _ _ _ _ _ => (d_callT c_int fr_int rfl (d_cons (d_cmp (k_eqD (u64 hr)) (d_var 4) d_int) d_nil))) (by decide))) (d_cons (d_of (f_comp (own := [("digit", 4)]) rfl sc.nd (w_list (d_var 1)) (blkOk_by (N := ["m", "digits", "lower", "upper", "digit"]) (sc := defScope (top 24)) (by decide +kernel)) (fun _ _ _ _ _ => (g_name 4 sc.nd)) (fun _ _ _ _ _ => t_nil) (fun _ _ _ _ _ => (d_callT c_int fr_int rfl (d_cons (d_cmp k_gt (d_var 4) d_int) d_nil))) (by decide))) d_nil)))
    (s_one (s_ret (d_tup (d_cons (d_call G_number_of hg (hr.mono (by decide)) m_number_of F_number_of.kp b_number_of .nil (fun _ => .nil) (d_cons (d_var 2) (d_cons d_int d_nil))) (d_cons (d_call G_number_of hg (hr.mono (by decide)) m_number_of F_number_of.kp b_number_of .nil (fun _ => .nil) (d_cons (d_var 3) (d_cons d_int d_nil))) d_nil))))))))⟩
/-! check_members -/
def b_check_members : S → M Out := (sFor (iEnT (aCons (dVar 0) aNil)) (gTp (gsCons (gNm 1) (gsCons (gNm 2) gsNil)))
    (sIf (dNot (dTst (dCallU 1 f_is_plain_number [] (aCons (dVar 2) aNil))))
    sNever
    sNil))
def f_check_members : FnD := runP 3 b_check_members
theorem sc_check_members : FnScope ["members", "index", "value"] ["members"] (defScope (top 26)) := ⟨rfl, rfl, rfl, by decide +kernel, rfl, by decide +kernel, by decide +kernel⟩
abbrev D_check_members (K : PySem.W.Frag) (fd : FuncData) : Prop := FunD K "check_members" "check_members" (defArgs (top 26)) (defBody (top 26)) (defScope (top 26)) [] [] (He.ga K "check_members") fd
theorem ok_check_members {P : Program} {w : World} {K : PySem.W.Frag} {mg : Str → Option Value} {base : Heap} (Z : Ctx K mg) {fd : FuncData} (F : D_check_members K fd) : FnG P w K mg base CX0 3 (He.ga K "check_members") fd ["members"] (spP K (cl0 K) 1 f_check_members) := by
  have fr_enumerate : mg "enumerate" = none := Z.fre "enumerate" (by decide)
  obtain ⟨fd_is_plain_number, F_is_plain_number⟩ : ∃ fd, D_is_plain_number K fd := Z.says.def_ 9 (d := (dd (.fn "is_plain_number") "is_plain_number" "is_plain_number" (top 15) [] [])) rfl
  have G_is_plain_number : FnG P w K mg base CX0 2 _ fd_is_plain_number ["value"] _ := ok_is_plain_number Z F_is_plain_number
  have m_is_plain_number : mg "is_plain_number" = some (.ref (He.ga K "is_plain_number")) := Z.glo "is_plain_number" (by decide)
  have b_is_plain_number : Binds K fd_is_plain_number ["value"] [] := F_is_plain_number.bindsN fun _ _ _ _ _ _ us hl => match us, hl with | [_], _ => rfl
  have sc := sc_check_members
  refine okP F sc rfl rfl (F := b_check_members) fun cdv A outer s H E hg hr => ?_
  exact ⟨_, (s_one (s_for PassesOwn.never (w_enumT fr_enumerate (d_cons (d_var 0) d_nil)) (g_tup rfl (gs_cons (g_name 1 sc.nd) (gs_cons (g_name 2 sc.nd) gs_nil)) 2 (gsl_cons (gsl_cons gsl_nil)))
    (s_one (s_if (d_not (d_tst (d_call G_is_plain_number hg (hr.mono (by decide)) m_is_plain_number F_is_plain_number.kp b_is_plain_number .nil (fun _ => .nil) (d_cons (d_var 2) d_nil))))
    (s_one s_never)
    s_nil))))⟩
/-! Ternary_init -/
def b_Ternary_init : S → M Out := (sSeq (sExpr (dCallU 3 f_check_number [.int 0, .non] (aCons (dVar 1) aNil)))
    (sSeq (sFldPut 0 "Ternary" 0 (dVar 1))
    (sFldPut 0 "Ternary" 1 (dCall tupleN (aCons (dCallU 2 f_digits_in [] (aCons (dVar 1) (aCons (dC (.int 3)) aNil))) aNil)))))
def f_Ternary_init : D → List D → M (D × D) := runI 2 b_Ternary_init
theorem sc_Ternary_init : FnScope ["self", "number"] ["self", "number"] (defScope (mth 30 1)) := ⟨rfl, rfl, rfl, by decide +kernel, rfl, by decide +kernel, by decide +kernel⟩
abbrev D_Ternary_init (K : PySem.W.Frag) (fd : FuncData) : Prop := FunD K "__init__" "Ternary.__init__" (defArgs (mth 30 1)) (defBody (mth 30 1)) (defScope (mth 30 1)) [] [] (He.ma K (He.ga K "Ternary") "__init__") fd
theorem ok_Ternary_init {P : Program} {w : World} {K : PySem.W.Frag} {mg : Str → Option Value} {base : Heap} (Z : Ctx K mg) {fd : FuncData} (F : D_Ternary_init K fd) : FnG P w K mg base CX0 3 (He.ma K (He.ga K "Ternary") "__init__") fd ["self", "number"] (spI K (cl0 K) 2 f_Ternary_init) := by
  have fr_tuple : mg "tuple" = none := Z.fre "tuple" (by decide)
  obtain ⟨fd_check_number, F_check_number⟩ : ∃ fd, D_check_number K fd := Z.says.def_ 2 (d := (dd (.fn "check_number") "check_number" "check_number" (top 8) [.int 0, .non] [])) rfl
  have G_check_number : FnG P w K mg base CX0 2 _ fd_check_number ["value", "low", "high"] _ := ok_check_number Z F_check_number
  have m_check_number : mg "check_number" = some (.ref (He.ga K "check_number")) := Z.glo "check_number" (by decide)
  obtain ⟨fd_digits_in, F_digits_in⟩ : ∃ fd, D_digits_in K fd := Z.says.def_ 3 (d := (dd (.fn "digits_in") "digits_in" "digits_in" (top 9) [] [])) rfl
  have G_digits_in : FnG P w K mg base CX0 1 _ fd_digits_in ["number", "radix"] _ := ok_digits_in Z F_digits_in
  have m_digits_in : mg "digits_in" = some (.ref (He.ga K "digits_in")) := Z.glo "digits_in" (by decide)
  have kc_Ternary := cls_Ternary (K := K) Z.says
  obtain ⟨db_check_number_1, vb_check_number_1, b_check_number_1⟩ : ∃ ds, Vals [(V.int 0), V.non] ds ∧ Binds K fd_check_number ["value", "low", "high"] ds := F_check_number.binds1 1 0 (by decide) rfl fun _ _ _ _ _ _ _ us ks h1 h2 => match us, ks, h1, h2 with | [_], [_, _], _, _ => ⟨_, rfl, rfl⟩
  have b_digits_in : Binds K fd_digits_in ["number", "radix"] [] := F_digits_in.bindsN fun _ _ _ _ _ _ us hl => match us, hl with | [_, _], _ => rfl
  have sc := sc_Ternary_init
  refine okI F sc rfl rfl (by decide) (F := b_Ternary_init) fun cdv A outer s H E hg hr => ?_
  exact ⟨_, (s_cons (s_expr (d_call G_check_number hg (hr.mono (by decide)) m_check_number F_check_number.kp b_check_number_1 vb_check_number_1 (fun _ => .cons (.int 0) (.cons .non (.nil))) (d_cons (d_var 1) d_nil)))
    (s_cons (s_fldPut (j := 0) 0 kc_Ternary (d_var 1))
    (s_one (s_fldPut (j := 1) 0 kc_Ternary (d_callT c_tuple fr_tuple rfl (d_cons (d_call G_digits_in hg (hr.mono (by decide)) m_digits_in F_digits_in.kp b_digits_in .nil (fun _ => .nil) (d_cons (d_var 1) (d_cons d_int d_nil))) d_nil))))))⟩
/-! _law_number -/
def b__law_number : S → M Out := (sSeq (sSet 1 (dCallI 0 2 f__law_draw (aCons (dC (.int 4)) aNil)))
    (sSeq (sIf (dTst (dBin eqD (dVar 1) (dC (.int 0))))
    (sRet (dCallI 0 2 f__law_draw (aCons (dC (.int 100)) aNil)))
    sNil)
    (sSeq (sIf (dTst (dBin eqD (dVar 1) (dC (.int 1))))
    (sRet (dBin addI (dBin mulI (dCallI 0 2 f__law_draw (aCons (dBin powI (dC (.int 10)) (dC (.int 30))) aNil)) (dBin powI (dC (.int 10)) (dC (.int 30)))) (dCallI 0 2 f__law_draw (aCons (dBin powI (dC (.int 10)) (dC (.int 30))) aNil))))
    sNil)
    (sSeq (sSet 2 (dC (.int 1)))
    (sSeq (sFor (iR1 (aCons (dCallI 0 2 f__law_draw (aCons (dC (.int 120)) aNil)) aNil)) (gNm 3)
    (sSet 2 (dBin addI (dBin mulI (dC (.int 3)) (dVar 2)) (dIf (dTst (dBin eqD (dVar 1) (dC (.int 3)))) (dCallI 0 2 f__law_draw (aCons (dC (.int 2)) aNil)) (dC (.int 0))))))
    (sRet (dCall max2N (aCons (dC (.int 0)) (aCons (dBin subI (dBin addI (dVar 2) (dCallI 0 2 f__law_draw (aCons (dC (.int 3)) aNil))) (dC (.int 1))) aNil)))))))))
def f__law_number : D → List D → M (D × D) := runI 4 b__law_number
theorem sc__law_number : FnScope ["_law_stream_here", "_law_way", "_law_found", "_law_turn"] ["_law_stream_here"] (defScope (top 35)) := ⟨rfl, rfl, rfl, by decide +kernel, rfl, by decide +kernel, by decide +kernel⟩
abbrev D__law_number (K : PySem.W.Frag) (fd : FuncData) : Prop := FunD K "_law_number" "_law_number" (defArgs (top 35)) (defBody (top 35)) (defScope (top 35)) [] [] (He.ga K "_law_number") fd
theorem ok__law_number {P : Program} {w : World} {K : PySem.W.Frag} {mg : Str → Option Value} {base : Heap} (Z : Ctx K mg) {fd : FuncData} (F : D__law_number K fd) : FnG P w K mg base CX0 3 (He.ga K "_law_number") fd ["_law_stream_here"] (spI K (cl0 K) 1 f__law_number) := by
  have fr_range : mg "range" = none := Z.fre "range" (by decide)
  have fr_max : mg "max" = none := Z.fre "max" (by decide)
  obtain ⟨fd__law_draw, F__law_draw⟩ : ∃ fd, D__law_draw K fd := Z.says.def_ 26 (d := (dd (.fn "_law_draw") "_law_draw" "_law_draw" (top 34) [] [])) rfl
  have G__law_draw : FnG P w K mg base CX0 2 _ fd__law_draw ["_law_stream_here", "_law_top"] _ := ok__law_draw Z F__law_draw
  have m__law_draw : mg "_law_draw" = some (.ref (He.ga K "_law_draw")) := Z.glo "_law_draw" (by decide)
  have b__law_draw : Binds K fd__law_draw ["_law_stream_here", "_law_top"] [] := F__law_draw.bindsN fun _ _ _ _ _ _ us hl => match us, hl with | [_, _], _ => rfl
  have sc := sc__law_number
  refine okI F sc rfl rfl (by decide) (F := b__law_number) fun cdv A outer s H E hg hr => ?_
  exact ⟨_, (s_cons (s_set 1 sc.nd (d_callI 0 G__law_draw hg (hr.mono (by decide)) m__law_draw F__law_draw.kp b__law_draw (d_cons d_int d_nil)))
    (s_cons (s_if (d_tcmp (k_eqD (u64 hr)) (d_var 1) d_int)
    (s_one (s_ret (d_callI 0 G__law_draw hg (hr.mono (by decide)) m__law_draw F__law_draw.kp b__law_draw (d_cons d_int d_nil))))
    s_nil)
    (s_cons (s_if (d_tcmp (k_eqD (u64 hr)) (d_var 1) d_int)
    (s_one (s_ret (d_op k_add (d_op k_mul (d_callI 0 G__law_draw hg (hr.mono (by decide)) m__law_draw F__law_draw.kp b__law_draw (d_cons (d_op k_pow d_int d_int) d_nil)) (d_op k_pow d_int d_int)) (d_callI 0 G__law_draw hg (hr.mono (by decide)) m__law_draw F__law_draw.kp b__law_draw (d_cons (d_op k_pow d_int d_int) d_nil)))))
    s_nil)
    (s_cons (s_set 2 sc.nd d_int)
    (s_cons (s_for PassesOwn.never (w_range1 fr_range (d_cons (d_callI 0 G__law_draw hg (hr.mono (by decide)) m__law_draw F__law_draw.kp b__law_draw (d_cons d_int d_nil)) d_nil)) (g_name 3 sc.nd)
    (s_one (s_set 2 sc.nd (d_op k_add (d_op k_mul d_int (d_var 2)) (d_ifx (d_tcmp (k_eqD (u64 hr)) (d_var 1) d_int) (d_callI 0 G__law_draw hg (hr.mono (by decide)) m__law_draw F__law_draw.kp b__law_draw (d_cons d_int d_nil)) d_int)))))
    (s_one (s_ret (d_callB (c_max2 rfl) fr_max rfl (d_cons d_int (d_cons (d_op k_sub (d_op k_add (d_var 2) (d_callI 0 G__law_draw hg (hr.mono (by decide)) m__law_draw F__law_draw.kp b__law_draw (d_cons d_int d_nil))) d_int) d_nil))))))))))⟩
/-! join -/
def b_join : S → M Out := (sSeq (sExpr (dCallU 1 f_check_members [] (aCons (dVar 0) aNil)))
    (sRet (dIf (dTst (dBin gtI (dCall lenN (aCons (dVar 0) aNil)) (dC (.int 0)))) (dCallU 2 f_combined_digits [] (aCons (dVar 0) (aCons (dC (.str "join")) aNil))) (dC (.int 0)))))
def f_join : FnD := runP 1 b_join
theorem sc_join : FnScope ["members"] ["members"] (defScope (top 28)) := ⟨rfl, rfl, rfl, by decide +kernel, rfl, by decide +kernel, by decide +kernel⟩
abbrev D_join (K : PySem.W.Frag) (fd : FuncData) : Prop := FunD K "join" "join" (defArgs (top 28)) (defBody (top 28)) (defScope (top 28)) [] [] (He.ga K "join") fd
theorem ok_join {P : Program} {w : World} {K : PySem.W.Frag} {mg : Str → Option Value} {base : Heap} (Z : Ctx K mg) {fd : FuncData} (F : D_join K fd) : FnV P w K mg base 4 (He.ga K "join") (spV K (cl0 K) f_join) := by
  have fr_len : mg "len" = none := Z.fre "len" (by decide)
  obtain ⟨fd_check_members, F_check_members⟩ : ∃ fd, D_check_members K fd := Z.says.def_ 20 (d := (dd (.fn "check_members") "check_members" "check_members" (top 26) [] [])) rfl
  have G_check_members : FnG P w K mg base CX0 3 _ fd_check_members ["members"] _ := ok_check_members Z F_check_members
  have m_check_members : mg "check_members" = some (.ref (He.ga K "check_members")) := Z.glo "check_members" (by decide)
  obtain ⟨fd_combined_digits, F_combined_digits⟩ : ∃ fd, D_combined_digits K fd := Z.says.def_ 21 (d := (dd (.fn "combined_digits") "combined_digits" "combined_digits" (top 27) [] [])) rfl
  have G_combined_digits : FnG P w K mg base CX0 2 _ fd_combined_digits ["members", "word"] _ := ok_combined_digits Z F_combined_digits
  have m_combined_digits : mg "combined_digits" = some (.ref (He.ga K "combined_digits")) := Z.glo "combined_digits" (by decide)
  have b_check_members : Binds K fd_check_members ["members"] [] := F_check_members.bindsN fun _ _ _ _ _ _ us hl => match us, hl with | [_], _ => rfl
  have b_combined_digits : Binds K fd_combined_digits ["members", "word"] [] := F_combined_digits.bindsN fun _ _ _ _ _ _ us hl => match us, hl with | [_, _], _ => rfl
  have sc := sc_join
  refine okV F sc rfl (fun _ _ _ _ _ _ rest => match rest with | [] => rfl | _ :: _ => rfl) (F := b_join) fun cdv A outer s H E hg hr => ?_
  exact ⟨_, (s_cons (s_expr (d_call G_check_members hg (hr.mono (by decide)) m_check_members F_check_members.kp b_check_members .nil (fun _ => .nil) (d_cons (d_var 0) d_nil)))
    (s_one (s_ret (d_ifx (d_tcmp k_gt (d_callB c_len fr_len rfl (d_cons (d_var 0) d_nil)) d_int) (d_call G_combined_digits hg (hr.mono (by decide)) m_combined_digits F_combined_digits.kp b_combined_digits .nil (fun _ => .nil) (d_cons (d_var 0) (d_cons d_str d_nil))) d_int))))⟩
/-! meet -/
def b_meet : S → M Out := (sSeq (sIf (dTst (dBin eqD (dCall lenN (aCons (dVar 0) aNil)) (dC (.int 0))))
    sNever
    sNil)
    (sSeq (sExpr (dCallU 1 f_check_members [] (aCons (dVar 0) aNil)))
    (sRet (dCallU 2 f_combined_digits [] (aCons (dVar 0) (aCons (dC (.str "meet")) aNil))))))
def f_meet : FnD := runP 1 b_meet
theorem sc_meet : FnScope ["members"] ["members"] (defScope (top 29)) := ⟨rfl, rfl, rfl, by decide +kernel, rfl, by decide +kernel, by decide +kernel⟩
abbrev D_meet (K : PySem.W.Frag) (fd : FuncData) : Prop := FunD K "meet" "meet" (defArgs (top 29)) (defBody (top 29)) (defScope (top 29)) [] [] (He.ga K "meet") fd
theorem ok_meet {P : Program} {w : World} {K : PySem.W.Frag} {mg : Str → Option Value} {base : Heap} (Z : Ctx K mg) {fd : FuncData} (F : D_meet K fd) : FnV P w K mg base 4 (He.ga K "meet") (spV K (cl0 K) f_meet) := by
  have fr_len : mg "len" = none := Z.fre "len" (by decide)
  obtain ⟨fd_check_members, F_check_members⟩ : ∃ fd, D_check_members K fd := Z.says.def_ 20 (d := (dd (.fn "check_members") "check_members" "check_members" (top 26) [] [])) rfl
  have G_check_members : FnG P w K mg base CX0 3 _ fd_check_members ["members"] _ := ok_check_members Z F_check_members
  have m_check_members : mg "check_members" = some (.ref (He.ga K "check_members")) := Z.glo "check_members" (by decide)
  obtain ⟨fd_combined_digits, F_combined_digits⟩ : ∃ fd, D_combined_digits K fd := Z.says.def_ 21 (d := (dd (.fn "combined_digits") "combined_digits" "combined_digits" (top 27) [] [])) rfl
  have G_combined_digits : FnG P w K mg base CX0 2 _ fd_combined_digits ["members", "word"] _ := ok_combined_digits Z F_combined_digits
  have m_combined_digits : mg "combined_digits" = some (.ref (He.ga K "combined_digits")) := Z.glo "combined_digits" (by decide)
  have b_check_members : Binds K fd_check_members ["members"] [] := F_check_members.bindsN fun _ _ _ _ _ _ us hl => match us, hl with | [_], _ => rfl
  have b_combined_digits : Binds K fd_combined_digits ["members", "word"] [] := F_combined_digits.bindsN fun _ _ _ _ _ _ us hl => match us, hl with | [_, _], _ => rfl
  have sc := sc_meet
  refine okV F sc rfl (fun _ _ _ _ _ _ rest => match rest with | [] => rfl | _ :: _ => rfl) (F := b_meet) fun cdv A outer s H E hg hr => ?_
  exact ⟨_, (s_cons (s_if (d_tcmp (k_eqD (u64 hr)) (d_callB c_len fr_len rfl (d_cons (d_var 0) d_nil)) d_int)
    (s_one s_never)
    s_nil)
    (s_cons (s_expr (d_call G_check_members hg (hr.mono (by decide)) m_check_members F_check_members.kp b_check_members .nil (fun _ => .nil) (d_cons (d_var 0) d_nil)))
    (s_one (s_ret (d_call G_combined_digits hg (hr.mono (by decide)) m_combined_digits F_combined_digits.kp b_combined_digits .nil (fun _ => .nil) (d_cons (d_var 0) (d_cons d_str d_nil)))))))⟩
/-! _law_first_right -/
def b__law_first_right : S → M Out := (sSeq (sSet 0 (dComp (iR1 (aCons (dC (.int 301)) aNil)) [1] (gNm 1) (dTst (dCallU 1 f_in_base [] (aCons (dVar 1) aNil))) (dVar 1)))
    (sSeq (sIf (dOr (dTst (dBin neD (dCallU 2 f__law_greedy [] (aCons (dLst (aCons (dC (.int 0)) aNil)) (aCons (dC (.int 300)) aNil))) (dVar 0))) (dTst (dBin neD (dCallU 2 f__law_greedy [] (aCons (dLst (aCons (dC (.int 0)) (aCons (dC (.int 1)) aNil))) (aCons (dC (.int 300)) aNil))) (dVar 0))))
    (sRet (dC (.bl false)))
    sNil)
    (sSeq (sIf (dOr (dTst (dBin neD (dComp (iR1 (aCons (dCall lenN (aCons (dVar 0) aNil)) aNil)) [2] (gNm 2) tTrue (dCallU 1 f_base_member [] (aCons (dVar 2) aNil))) (dVar 0))) (dTst (dBin neD (dCallU 1 f_base_sum [] (aCons (dCall lenN (aCons (dVar 0) aNil)) aNil)) (dCall sumN (aCons (dVar 0) aNil)))))
    (sRet (dC (.bl false)))
    sNil)
    (sSeq (sFor (iR1 (aCons (dC (.int 301)) aNil)) (gNm 1)
    (sSeq (sAsg (dCallU 1 f_plain_pair [] (aCons (dVar 1) aNil)) (gTp (gsCons (gNm 3) (gsCons (gNm 4) gsNil))))
    (sIf (dOr (dTst (dBin ninD (dVar 3) (dVar 0))) (dOr (dTst (dBin ninD (dVar 4) (dVar 0))) (dOr (dTst (dBin neD (dBin subI (dBin mulI (dC (.int 2)) (dVar 4)) (dVar 3)) (dVar 1))) (dTst (dBin eqD (dBin ltI (dVar 3) (dVar 4)) (dBin inD (dVar 1) (dVar 0)))))))
    (sRet (dC (.bl false)))
    sNil)))
    (sRet (dC (.bl true)))))))
def f__law_first_right : FnD := runP 5 b__law_first_right
theorem sc__law_first_right : FnScope ["_law_plain", "_law_number_here", "_law_order", "_law_low", "_law_high"] [] (defScope (top 37)) := ⟨rfl, rfl, rfl, by decide +kernel, rfl, by decide +kernel, by decide +kernel⟩
abbrev D__law_first_right (K : PySem.W.Frag) (fd : FuncData) : Prop := FunD K "_law_first_right" "_law_first_right" (defArgs (top 37)) (defBody (top 37)) (defScope (top 37)) [] [] (He.ga K "_law_first_right") fd
theorem ok__law_first_right {P : Program} {w : World} {K : PySem.W.Frag} {mg : Str → Option Value} {base : Heap} (Z : Ctx K mg) {fd : FuncData} (F : D__law_first_right K fd) : FnG P w K mg base CX0 4 (He.ga K "_law_first_right") fd [] (spP K (cl0 K) 0 f__law_first_right) := by
  have fr_range : mg "range" = none := Z.fre "range" (by decide)
  have fr_len : mg "len" = none := Z.fre "len" (by decide)
  have fr_sum : mg "sum" = none := Z.fre "sum" (by decide)
  obtain ⟨fd_in_base, F_in_base⟩ : ∃ fd, D_in_base K fd := Z.says.def_ 11 (d := (dd (.fn "in_base") "in_base" "in_base" (top 17) [] [])) rfl
  have G_in_base : FnG P w K mg base CX0 3 _ fd_in_base ["x"] _ := ok_in_base Z F_in_base
  have m_in_base : mg "in_base" = some (.ref (He.ga K "in_base")) := Z.glo "in_base" (by decide)
  obtain ⟨fd__law_greedy, F__law_greedy⟩ : ∃ fd, D__law_greedy K fd := Z.says.def_ 28 (d := (dd (.fn "_law_greedy") "_law_greedy" "_law_greedy" (top 36) [] [])) rfl
  have G__law_greedy : FnG P w K mg base CX0 1 _ fd__law_greedy ["_law_start", "_law_most"] _ := ok__law_greedy Z F__law_greedy
  have m__law_greedy : mg "_law_greedy" = some (.ref (He.ga K "_law_greedy")) := Z.glo "_law_greedy" (by decide)
  obtain ⟨fd_base_sum, F_base_sum⟩ : ∃ fd, D_base_sum K fd := Z.says.def_ 16 (d := (dd (.fn "base_sum") "base_sum" "base_sum" (top 22) [] [])) rfl
  have G_base_sum : FnG P w K mg base CX0 3 _ fd_base_sum ["number"] _ := ok_base_sum Z F_base_sum
  have m_base_sum : mg "base_sum" = some (.ref (He.ga K "base_sum")) := Z.glo "base_sum" (by decide)
  obtain ⟨fd_base_member, F_base_member⟩ : ∃ fd, D_base_member K fd := Z.says.def_ 10 (d := (dd (.fn "base_member") "base_member" "base_member" (top 16) [] [])) rfl
  have G_base_member : FnG P w K mg base CX0 3 _ fd_base_member ["number"] _ := ok_base_member Z F_base_member
  have m_base_member : mg "base_member" = some (.ref (He.ga K "base_member")) := Z.glo "base_member" (by decide)
  obtain ⟨fd_plain_pair, F_plain_pair⟩ : ∃ fd, D_plain_pair K fd := Z.says.def_ 18 (d := (dd (.fn "plain_pair") "plain_pair" "plain_pair" (top 24) [] [])) rfl
  have G_plain_pair : FnG P w K mg base CX0 3 _ fd_plain_pair ["m"] _ := ok_plain_pair Z F_plain_pair
  have m_plain_pair : mg "plain_pair" = some (.ref (He.ga K "plain_pair")) := Z.glo "plain_pair" (by decide)
  have b_in_base : Binds K fd_in_base ["x"] [] := F_in_base.bindsN fun _ _ _ _ _ _ us hl => match us, hl with | [_], _ => rfl
  have b__law_greedy : Binds K fd__law_greedy ["_law_start", "_law_most"] [] := F__law_greedy.bindsN fun _ _ _ _ _ _ us hl => match us, hl with | [_, _], _ => rfl
  have b_base_sum : Binds K fd_base_sum ["number"] [] := F_base_sum.bindsN fun _ _ _ _ _ _ us hl => match us, hl with | [_], _ => rfl
  have b_base_member : Binds K fd_base_member ["number"] [] := F_base_member.bindsN fun _ _ _ _ _ _ us hl => match us, hl with | [_], _ => rfl
  have b_plain_pair : Binds K fd_plain_pair ["m"] [] := F_plain_pair.bindsN fun _ _ _ _ _ _ us hl => match us, hl with | [_], _ => rfl
  have sc := sc__law_first_right
  refine okP F sc rfl rfl (F := b__law_first_right) fun cdv A outer s H E hg hr => ?_
  exact ⟨_, (s_cons (s_setLc 0 (own := [("_law_number_here", 1)]) rfl sc.nd (w_range1 fr_range (d_cons d_int d_nil)) (blkOk_by (N := ["_law_plain", "_law_number_here", "_law_order", "_law_low", "_law_high"]) (sc := defScope (top 37)) (by decide +kernel)) (fun _ _ _ _ _ => (g_name 1 sc.nd)) (fun _ _ _ _ _ => (t_one (d_tst (d_call G_in_base hg (hr.mono (by decide)) m_in_base F_in_base.kp b_in_base .nil (fun _ => .nil) (d_cons (d_var 1) d_nil))))) (fun _ _ _ _ _ => (d_var 1)) (by decide))
    (s_cons (s_if (d_or (d_tcmp (k_neD (u64 hr)) (d_call G__law_greedy hg (hr.mono (by decide)) m__law_greedy F__law_greedy.kp b__law_greedy .nil (fun _ => .nil) (d_cons (d_of (f_lst (d_cons d_int d_nil))) (d_cons d_int d_nil))) (d_var 0)) (d_or1 (d_tcmp (k_neD (u64 hr)) (d_call G__law_greedy hg (hr.mono (by decide)) m__law_greedy F__law_greedy.kp b__law_greedy .nil (fun _ => .nil) (d_cons (d_of (f_lst (d_cons d_int (d_cons d_int d_nil)))) (d_cons d_int d_nil))) (d_var 0)))).pt
    (s_one (s_ret d_bl))
    s_nil)
    (s_cons (s_if (d_or (d_tcmp (k_neD (u64 hr)) (d_of (f_comp (own := [("_law_order", 2)]) rfl sc.nd (w_range1 fr_range (d_cons (d_callB c_len fr_len rfl (d_cons (d_var 0) d_nil)) d_nil)) (blkOk_by (N := ["_law_plain", "_law_number_here", "_law_order", "_law_low", "_law_high"]) (sc := defScope (top 37)) (by decide +kernel)) (fun _ _ _ _ _ => (g_name 2 sc.nd)) (fun _ _ _ _ _ => t_nil) (fun _ _ _ _ _ => (d_call G_base_member hg (hr.mono (by decide)) m_base_member F_base_member.kp b_base_member .nil (fun _ => .nil) (d_cons (d_var 2) d_nil))) (by decide))) (d_var 0)) (d_or1 (d_tcmp (k_neD (u64 hr)) (d_call G_base_sum hg (hr.mono (by decide)) m_base_sum F_base_sum.kp b_base_sum .nil (fun _ => .nil) (d_cons (d_callB c_len fr_len rfl (d_cons (d_var 0) d_nil)) d_nil)) (d_callB (c_sum rfl) fr_sum rfl (d_cons (d_var 0) d_nil))))).pt
    (s_one (s_ret d_bl))
    s_nil)
    (s_cons (s_for PassesOwn.never (w_range1 fr_range (d_cons d_int d_nil)) (g_name 1 sc.nd)
    (s_cons (s_asg (d_call G_plain_pair hg (hr.mono (by decide)) m_plain_pair F_plain_pair.kp b_plain_pair .nil (fun _ => .nil) (d_cons (d_var 1) d_nil)) (g_tup rfl (gs_cons (g_name 3 sc.nd) (gs_cons (g_name 4 sc.nd) gs_nil)) 2 (gsl_cons (gsl_cons gsl_nil))))
    (s_one (s_if (d_or (d_tcmp (k_ninD (u65 hr)) (d_var 3) (d_var 0)) (d_or (d_tcmp (k_ninD (u65 hr)) (d_var 4) (d_var 0)) (d_or (d_tcmp (k_neD (u64 hr)) (d_op k_sub (d_op k_mul d_int (d_var 4)) (d_var 3)) (d_var 1)) (d_or1 (d_tcmp (k_eqD (u64 hr)) (d_cmp k_lt (d_var 3) (d_var 4)) (d_cmp (k_inD (u65 hr)) (d_var 1) (d_var 0))))))).pt
    (s_one (s_ret d_bl))
    s_nil))))
    (s_one (s_ret d_bl))))))⟩
/-! _law_members_right -/
def b__law_members_right : S → M Out := (sSeq (sSet 1 (dCall sortedN (aCons (dComp (iR1 (aCons (dC (.int 3)) aNil)) [2] (gNm 2) tTrue (dCallU 1 f_base_member [] (aCons (dCallI 0 1 f__law_number aNil) aNil))) aNil)))
    (sSeq (sIf (dTst (dBin neD (dComp (iLst (dVar 1)) [3] (gNm 3) (dNot (dTst (dCallU 1 f_in_base [] (aCons (dVar 3) aNil)))) (dC (.int 1))) (dLst aNil)))
    (sRet (dC (.bl false)))
    sNil)
    (sSeq (sIf (dAnd (dTst (dBin eqD (dCall lenN (aCons (dSortSet (aCons (dVar 1) aNil)) aNil)) (dC (.int 3)))) (dTst (dBin eqD (dBin mulI (dC (.int 2)) (dBin ixL (dVar 1) (dC (.int 1)))) (dBin addI (dBin ixL (dVar 1) (dC (.int 0))) (dBin ixL (dVar 1) (dC (.int 2)))))))
    (sRet (dC (.bl false)))
    sNil)
    (sSeq (sPar 4 5 (aCons (dCallV f_join (aCons (dBin ixL (dVar 1) (dC (.int 0))) (aCons (dBin ixL (dVar 1) (dC (.int 1))) (aCons (dBin ixL (dVar 1) (dC (.int 2))) aNil)))) (aCons (dCallV f_meet (aCons (dBin ixL (dVar 1) (dC (.int 0))) (aCons (dBin ixL (dVar 1) (dC (.int 1))) (aCons (dBin ixL (dVar 1) (dC (.int 2))) aNil)))) aNil)))
    (sSeq (sAsg (dCallU 1 f_difference_pair [] (aCons (dBin subI (dBin ixL (dVar 1) (dC (.int 2))) (dBin ixL (dVar 1) (dC (.int 0)))) aNil)) (gTp (gsCons (gNm 6) (gsCons (gNm 7) gsNil))))
    (sSeq (sSet 8 (dCallU 1 f_base_rank [] (aCons (dBin ixL (dVar 1) (dC (.int 1))) aNil)))
    (sSeq (sSet 9 (dCall lenN (aCons (dProp "Ternary" f_Ternary_digits (dMake "Ternary" 2 f_Ternary_init [] (aCons (dBin ixL (dVar 1) (dC (.int 1))) aNil))) aNil)))
    (sSeq (sSet 10 (dLst (aCons (dVar 4) (aCons (dVar 5) (aCons (dVar 6) (aCons (dVar 7) (aCons (dCallU 2 f_mirror [] (aCons (dBin ixL (dVar 1) (dC (.int 1))) (aCons (dVar 9) aNil))) (aCons (dBin addI (dBin ixL (dVar 1) (dC (.int 1))) (dCallU 1 f_base_gap [] (aCons (dBin addI (dVar 8) (dC (.int 1))) aNil))) aNil))))))))
    (sRet (vAnd (dBin eqD (dComp (iLst (dVar 10)) [3] (gNm 3) (dNot (dTst (dCallU 1 f_in_base [] (aCons (dVar 3) aNil)))) (dC (.int 1))) (dLst aNil)) (vAnd (dBin leI (dVar 4) (dCall sumN (aCons (dVar 1) aNil))) (dBin leI (dVar 5) (dBin ixL (dVar 1) (dC (.int 0)))))))))))))))
def f__law_members_right : D → List D → M (D × D) := runI 11 b__law_members_right
theorem sc__law_members_right : FnScope ["_law_stream_here", "_law_some", "_law_turn", "_law_each", "_law_high", "_law_low", "_law_one", "_law_two", "_law_order", "_law_size", "_law_told"] ["_law_stream_here"] (defScope (top 38)) := ⟨rfl, rfl, rfl, by decide +kernel, rfl, by decide +kernel, by decide +kernel⟩
abbrev D__law_members_right (K : PySem.W.Frag) (fd : FuncData) : Prop := FunD K "_law_members_right" "_law_members_right" (defArgs (top 38)) (defBody (top 38)) (defScope (top 38)) [] [] (He.ga K "_law_members_right") fd
theorem ok__law_members_right {P : Program} {w : World} {K : PySem.W.Frag} {mg : Str → Option Value} {base : Heap} (Z : Ctx K mg) {fd : FuncData} (F : D__law_members_right K fd) : FnG P w K mg base CX0 5 (He.ga K "_law_members_right") fd ["_law_stream_here"] (spI K (cl0 K) 1 f__law_members_right) := by
  have fr_range : mg "range" = none := Z.fre "range" (by decide)
  have fr_sorted : mg "sorted" = none := Z.fre "sorted" (by decide)
  have fr_set : mg "set" = none := Z.fre "set" (by decide)
  have fr_len : mg "len" = none := Z.fre "len" (by decide)
  have fr_sum : mg "sum" = none := Z.fre "sum" (by decide)
  obtain ⟨fd_base_member, F_base_member⟩ : ∃ fd, D_base_member K fd := Z.says.def_ 10 (d := (dd (.fn "base_member") "base_member" "base_member" (top 16) [] [])) rfl
  have G_base_member : FnG P w K mg base CX0 3 _ fd_base_member ["number"] _ := ok_base_member Z F_base_member
  have m_base_member : mg "base_member" = some (.ref (He.ga K "base_member")) := Z.glo "base_member" (by decide)
  obtain ⟨fd__law_number, F__law_number⟩ : ∃ fd, D__law_number K fd := Z.says.def_ 27 (d := (dd (.fn "_law_number") "_law_number" "_law_number" (top 35) [] [])) rfl
  have G__law_number : FnG P w K mg base CX0 3 _ fd__law_number ["_law_stream_here"] _ := ok__law_number Z F__law_number
  have m__law_number : mg "_law_number" = some (.ref (He.ga K "_law_number")) := Z.glo "_law_number" (by decide)
  obtain ⟨fd_in_base, F_in_base⟩ : ∃ fd, D_in_base K fd := Z.says.def_ 11 (d := (dd (.fn "in_base") "in_base" "in_base" (top 17) [] [])) rfl
  have G_in_base : FnG P w K mg base CX0 3 _ fd_in_base ["x"] _ := ok_in_base Z F_in_base
  have m_in_base : mg "in_base" = some (.ref (He.ga K "in_base")) := Z.glo "in_base" (by decide)
  obtain ⟨fd_meet, F_meet⟩ : ∃ fd, D_meet K fd := Z.says.def_ 23 (d := (dd (.fn "meet") "meet" "meet" (top 29) [] [])) rfl
  have G_meet : FnV P w K mg base 4 _ _ := ok_meet Z F_meet
  have m_meet : mg "meet" = some (.ref (He.ga K "meet")) := Z.glo "meet" (by decide)
  obtain ⟨fd_join, F_join⟩ : ∃ fd, D_join K fd := Z.says.def_ 22 (d := (dd (.fn "join") "join" "join" (top 28) [] [])) rfl
  have G_join : FnV P w K mg base 4 _ _ := ok_join Z F_join
  have m_join : mg "join" = some (.ref (He.ga K "join")) := Z.glo "join" (by decide)
  obtain ⟨fd_difference_pair, F_difference_pair⟩ : ∃ fd, D_difference_pair K fd := Z.says.def_ 19 (d := (dd (.fn "difference_pair") "difference_pair" "difference_pair" (top 25) [] [])) rfl
  have G_difference_pair : FnG P w K mg base CX0 2 _ fd_difference_pair ["d"] _ := ok_difference_pair Z F_difference_pair
  have m_difference_pair : mg "difference_pair" = some (.ref (He.ga K "difference_pair")) := Z.glo "difference_pair" (by decide)
  obtain ⟨fd_base_rank, F_base_rank⟩ : ∃ fd, D_base_rank K fd := Z.says.def_ 12 (d := (dd (.fn "base_rank") "base_rank" "base_rank" (top 18) [] [])) rfl
  have G_base_rank : FnG P w K mg base CX0 3 _ fd_base_rank ["x"] _ := ok_base_rank Z F_base_rank
  have m_base_rank : mg "base_rank" = some (.ref (He.ga K "base_rank")) := Z.glo "base_rank" (by decide)
  obtain ⟨fd_Ternary_digits, F_Ternary_digits⟩ : ∃ fd, D_Ternary_digits K fd := Z.says.def_ 34 (d := (dd (.prop "Ternary" "digits") "digits" "Ternary.digits" (mth 30 5) [] [])) rfl
  have G_Ternary_digits : FnG P w K mg base CX0 1 _ fd_Ternary_digits ["self"] _ := ok_Ternary_digits Z F_Ternary_digits
  have po_Ternary_digits := prop_ok (C := "Ternary") (m := "digits") (Z.says.at_ 34 (d := (dd (.prop "Ternary" "digits") "digits" "Ternary.digits" (mth 30 5) [] [])) rfl)
  obtain ⟨fd_Ternary_init, F_Ternary_init⟩ : ∃ fd, D_Ternary_init K fd := Z.says.def_ 33 (d := (dd (.meth "Ternary" "__init__") "__init__" "Ternary.__init__" (mth 30 1) [] [])) rfl
  have G_Ternary_init : FnG P w K mg base CX0 3 _ fd_Ternary_init ["self", "number"] _ := ok_Ternary_init Z F_Ternary_init
  have me_Ternary_init := He.meth_ok (x := "Ternary") (m := "__init__") (Z.says.at_ 33 (d := (dd (.meth "Ternary" "__init__") "__init__" "Ternary.__init__" (mth 30 1) [] [])) rfl)
  obtain ⟨fd_base_gap, F_base_gap⟩ : ∃ fd, D_base_gap K fd := Z.says.def_ 15 (d := (dd (.fn "base_gap") "base_gap" "base_gap" (top 21) [] [])) rfl
  have G_base_gap : FnG P w K mg base CX0 3 _ fd_base_gap ["number"] _ := ok_base_gap Z F_base_gap
  have m_base_gap : mg "base_gap" = some (.ref (He.ga K "base_gap")) := Z.glo "base_gap" (by decide)
  obtain ⟨fd_mirror, F_mirror⟩ : ∃ fd, D_mirror K fd := Z.says.def_ 17 (d := (dd (.fn "mirror") "mirror" "mirror" (top 23) [] [])) rfl
  have G_mirror : FnG P w K mg base CX0 3 _ fd_mirror ["x", "power"] _ := ok_mirror Z F_mirror
  have m_mirror : mg "mirror" = some (.ref (He.ga K "mirror")) := Z.glo "mirror" (by decide)
  have kc_Ternary := cls_Ternary (K := K) Z.says
  have mk_Ternary := He.mkr_ok (x := "Ternary") (Z.says.facts (by simp [fa, clsfacts]))
  have mc_Ternary : mg "Ternary" = some (.ref (He.ga K "Ternary")) := Z.glo "Ternary" (by decide)
  have b_base_member : Binds K fd_base_member ["number"] [] := F_base_member.bindsN fun _ _ _ _ _ _ us hl => match us, hl with | [_], _ => rfl
  have b_in_base : Binds K fd_in_base ["x"] [] := F_in_base.bindsN fun _ _ _ _ _ _ us hl => match us, hl with | [_], _ => rfl
  have b_difference_pair : Binds K fd_difference_pair ["d"] [] := F_difference_pair.bindsN fun _ _ _ _ _ _ us hl => match us, hl with | [_], _ => rfl
  have b_base_rank : Binds K fd_base_rank ["x"] [] := F_base_rank.bindsN fun _ _ _ _ _ _ us hl => match us, hl with | [_], _ => rfl
  have b_Ternary_digits : Binds K fd_Ternary_digits ["self"] [] := F_Ternary_digits.bindsN fun _ _ _ _ _ _ us hl => match us, hl with | [_], _ => rfl
  have b_Ternary_init : Binds K fd_Ternary_init ["self", "number"] [] := F_Ternary_init.bindsN fun _ _ _ _ _ _ us hl => match us, hl with | [_, _], _ => rfl
  have b_base_gap : Binds K fd_base_gap ["number"] [] := F_base_gap.bindsN fun _ _ _ _ _ _ us hl => match us, hl with | [_], _ => rfl
  have b_mirror : Binds K fd_mirror ["x", "power"] [] := F_mirror.bindsN fun _ _ _ _ _ _ us hl => match us, hl with | [_, _], _ => rfl
  have b__law_number : Binds K fd__law_number ["_law_stream_here"] [] := F__law_number.bindsN fun _ _ _ _ _ _ us hl => match us, hl with | [_], _ => rfl
  have sc := sc__law_members_right
  refine okI F sc rfl rfl (by decide) (F := b__law_members_right) fun cdv A outer s H E hg hr => ?_
  exact ⟨_, (s_cons (s_set 1 sc.nd (d_of (f_callB f_sorted fr_sorted rfl (d_cons (d_of (f_comp (own := [("_law_turn", 2)]) rfl sc.nd (w_range1 fr_range (d_cons d_int d_nil)) (blkOk_by (N := ["_law_stream_here", "_law_some", "_law_turn", "_law_each", "_law_high", "_law_low", "_law_one", "_law_two", "_law_order", "_law_size", "_law_told"]) (sc := defScope (top 38)) (by decide +kernel)) (fun _ _ _ _ _ => (g_name 2 sc.nd)) (fun _ _ _ _ _ => t_nil) (fun _ _ _ _ _ => (d_call G_base_member hg (hr.mono (by decide)) m_base_member F_base_member.kp b_base_member .nil (fun _ => .nil) (d_cons (d_callI 0 G__law_number hg (hr.mono (by decide)) m__law_number F__law_number.kp b__law_number d_nil) d_nil))) (by decide))) d_nil))))
    (s_cons (s_if (d_tcmp (k_neD (u64 hr)) (d_of (f_comp (own := [("_law_each", 3)]) rfl sc.nd (w_list (d_var 1)) (blkOk_by (N := ["_law_stream_here", "_law_some", "_law_turn", "_law_each", "_law_high", "_law_low", "_law_one", "_law_two", "_law_order", "_law_size", "_law_told"]) (sc := defScope (top 38)) (by decide +kernel)) (fun _ _ _ _ _ => (g_name 3 sc.nd)) (fun _ _ _ _ _ => (t_one (d_not (d_tst (d_call G_in_base hg (hr.mono (by decide)) m_in_base F_in_base.kp b_in_base .nil (fun _ => .nil) (d_cons (d_var 3) d_nil)))))) (fun _ _ _ _ _ => d_int) (by decide))) (d_of (f_lst d_nil)))
    (s_one (s_ret d_bl))
    s_nil)
    (s_cons (s_if (d_and (d_tcmp (k_eqD (u64 hr)) (d_callB c_len fr_len rfl (d_cons (d_of (f_sortset rfl fr_sorted fr_set (d_cons (d_var 1) d_nil))) d_nil)) d_int) (d_and1 (d_tcmp (k_eqD (u64 hr)) (d_op k_mul d_int (d_ixL (d_var 1) d_int)) (d_op k_add (d_ixL (d_var 1) d_int) (d_ixL (d_var 1) d_int))))).pt
    (s_one (s_ret d_bl))
    s_nil)
    (s_cons (s_par (i := 4) (j := 5) rfl sc.nd (d_cons (d_callV G_join hg (hr.mono (by decide)) m_join F_join.kp (d_cons (d_ixL (d_var 1) d_int) (d_cons (d_ixL (d_var 1) d_int) (d_cons (d_ixL (d_var 1) d_int) d_nil)))) (d_cons (d_callV G_meet hg (hr.mono (by decide)) m_meet F_meet.kp (d_cons (d_ixL (d_var 1) d_int) (d_cons (d_ixL (d_var 1) d_int) (d_cons (d_ixL (d_var 1) d_int) d_nil)))) d_nil)))
    (s_cons (s_asg (d_call G_difference_pair hg (hr.mono (by decide)) m_difference_pair F_difference_pair.kp b_difference_pair .nil (fun _ => .nil) (d_cons (d_op k_sub (d_ixL (d_var 1) d_int) (d_ixL (d_var 1) d_int)) d_nil)) (g_tup rfl (gs_cons (g_name 6 sc.nd) (gs_cons (g_name 7 sc.nd) gs_nil)) 2 (gsl_cons (gsl_cons gsl_nil))))
    (s_cons (s_set 8 sc.nd (d_call G_base_rank hg (hr.mono (by decide)) m_base_rank F_base_rank.kp b_base_rank .nil (fun _ => .nil) (d_cons (d_ixL (d_var 1) d_int) d_nil)))
    (s_cons (s_set 9 sc.nd (d_callB c_len fr_len rfl (d_cons (d_prop kc_Ternary po_Ternary_digits G_Ternary_digits hg (hr.mono (by decide)) b_Ternary_digits (d_of (f_make kc_Ternary mk_Ternary G_Ternary_init hg (hr.mono (by decide)) mc_Ternary b_Ternary_init .nil (fun _ => .nil) (d_cons (d_ixL (d_var 1) d_int) d_nil)))) d_nil)))
    (s_cons (s_set 10 sc.nd (d_of (f_lst (d_cons (d_var 4) (d_cons (d_var 5) (d_cons (d_var 6) (d_cons (d_var 7) (d_cons (d_call G_mirror hg (hr.mono (by decide)) m_mirror F_mirror.kp b_mirror .nil (fun _ => .nil) (d_cons (d_ixL (d_var 1) d_int) (d_cons (d_var 9) d_nil))) (d_cons (d_op k_add (d_ixL (d_var 1) d_int) (d_call G_base_gap hg (hr.mono (by decide)) m_base_gap F_base_gap.kp b_base_gap .nil (fun _ => .nil) (d_cons (d_op k_add (d_var 8) d_int) d_nil))) d_nil)))))))))
    (s_one (s_ret (d_vand (d_cmp (k_eqD (u64 hr)) (d_of (f_comp (own := [("_law_each", 3)]) rfl sc.nd (w_list (d_var 10)) (blkOk_by (N := ["_law_stream_here", "_law_some", "_law_turn", "_law_each", "_law_high", "_law_low", "_law_one", "_law_two", "_law_order", "_law_size", "_law_told"]) (sc := defScope (top 38)) (by decide +kernel)) (fun _ _ _ _ _ => (g_name 3 sc.nd)) (fun _ _ _ _ _ => (t_one (d_not (d_tst (d_call G_in_base hg (hr.mono (by decide)) m_in_base F_in_base.kp b_in_base .nil (fun _ => .nil) (d_cons (d_var 3) d_nil)))))) (fun _ _ _ _ _ => d_int) (by decide))) (d_of (f_lst d_nil))) (d_vand (d_cmp k_le (d_var 4) (d_callB (c_sum rfl) fr_sum rfl (d_cons (d_var 1) d_nil))) (d_vone (d_cmp k_le (d_var 5) (d_ixL (d_var 1) d_int)))))))))))))))⟩
/-! _law_between_right -/
def b__law_between_right : S → M Out := (sSeq (sSet 1 (dCallU 1 f_next_base [] (aCons (dVar 0) aNil)))
    (sSeq (sIf (dOr (dTst (dBin neD (dCallU 1 f_last_base [] (aCons (dVar 1) aNil)) (dVar 1))) (dOr (dTst (dBin neD (dCallU 1 f_base_rank [] (aCons (dVar 1) aNil)) (dCallU 1 f_base_rank [] (aCons (dBin addI (dVar 0) (dC (.int 1))) aNil)))) (dTst (dBin leI (dVar 1) (dVar 0)))))
    (sRet (dC (.bl false)))
    sNil)
    (sSeq (sFor (iRA (aCons (dBin addI (dVar 0) (dC (.int 1))) (aCons (dCall min2N (aCons (dVar 1) (aCons (dBin addI (dVar 0) (dC (.int 40))) aNil))) aNil))) (gNm 2)
    (sSeq (sAsg (dCallU 1 f_plain_pair [] (aCons (dVar 2) aNil)) (gTp (gsCons (gNm 3) (gsCons (gNm 4) gsNil))))
    (sIf (dOr (dNot (dTst (dChain ltI ltI (dVar 3) (dVar 4) (dVar 2)))) (dOr (dNot (dTst (dCallU 1 f_in_base [] (aCons (dVar 3) aNil)))) (dOr (dNot (dTst (dCallU 1 f_in_base [] (aCons (dVar 4) aNil)))) (dTst (dBin neD (dBin subI (dBin mulI (dC (.int 2)) (dVar 4)) (dVar 3)) (dVar 2))))))
    (sRet (dC (.bl false)))
    sNil)))
    (sRet (dProp "Ternary" f_Ternary_is_plain (dMake "Ternary" 2 f_Ternary_init [] (aCons (dVar 1) aNil)))))))
def f__law_between_right : FnD := runP 5 b__law_between_right
theorem sc__law_between_right : FnScope ["_law_given", "_law_later", "_law_number_here", "_law_low", "_law_high"] ["_law_given"] (defScope (top 39)) := ⟨rfl, rfl, rfl, by decide +kernel, rfl, by decide +kernel, by decide +kernel⟩
abbrev D__law_between_right (K : PySem.W.Frag) (fd : FuncData) : Prop := FunD K "_law_between_right" "_law_between_right" (defArgs (top 39)) (defBody (top 39)) (defScope (top 39)) [] [] (He.ga K "_law_between_right") fd
theorem ok__law_between_right {P : Program} {w : World} {K : PySem.W.Frag} {mg : Str → Option Value} {base : Heap} (Z : Ctx K mg) {fd : FuncData} (F : D__law_between_right K fd) : FnG P w K mg base CX0 5 (He.ga K "_law_between_right") fd ["_law_given"] (spP K (cl0 K) 1 f__law_between_right) := by
  have fr_min : mg "min" = none := Z.fre "min" (by decide)
  have fr_range : mg "range" = none := Z.fre "range" (by decide)
  obtain ⟨fd_next_base, F_next_base⟩ : ∃ fd, D_next_base K fd := Z.says.def_ 13 (d := (dd (.fn "next_base") "next_base" "next_base" (top 19) [] [])) rfl
  have G_next_base : FnG P w K mg base CX0 3 _ fd_next_base ["x"] _ := ok_next_base Z F_next_base
  have m_next_base : mg "next_base" = some (.ref (He.ga K "next_base")) := Z.glo "next_base" (by decide)
  obtain ⟨fd_base_rank, F_base_rank⟩ : ∃ fd, D_base_rank K fd := Z.says.def_ 12 (d := (dd (.fn "base_rank") "base_rank" "base_rank" (top 18) [] [])) rfl
  have G_base_rank : FnG P w K mg base CX0 3 _ fd_base_rank ["x"] _ := ok_base_rank Z F_base_rank
  have m_base_rank : mg "base_rank" = some (.ref (He.ga K "base_rank")) := Z.glo "base_rank" (by decide)
  obtain ⟨fd_last_base, F_last_base⟩ : ∃ fd, D_last_base K fd := Z.says.def_ 14 (d := (dd (.fn "last_base") "last_base" "last_base" (top 20) [] [])) rfl
  have G_last_base : FnG P w K mg base CX0 3 _ fd_last_base ["x"] _ := ok_last_base Z F_last_base
  have m_last_base : mg "last_base" = some (.ref (He.ga K "last_base")) := Z.glo "last_base" (by decide)
  obtain ⟨fd_plain_pair, F_plain_pair⟩ : ∃ fd, D_plain_pair K fd := Z.says.def_ 18 (d := (dd (.fn "plain_pair") "plain_pair" "plain_pair" (top 24) [] [])) rfl
  have G_plain_pair : FnG P w K mg base CX0 3 _ fd_plain_pair ["m"] _ := ok_plain_pair Z F_plain_pair
  have m_plain_pair : mg "plain_pair" = some (.ref (He.ga K "plain_pair")) := Z.glo "plain_pair" (by decide)
  obtain ⟨fd_in_base, F_in_base⟩ : ∃ fd, D_in_base K fd := Z.says.def_ 11 (d := (dd (.fn "in_base") "in_base" "in_base" (top 17) [] [])) rfl
  have G_in_base : FnG P w K mg base CX0 3 _ fd_in_base ["x"] _ := ok_in_base Z F_in_base
  have m_in_base : mg "in_base" = some (.ref (He.ga K "in_base")) := Z.glo "in_base" (by decide)
  obtain ⟨fd_Ternary_is_plain, F_Ternary_is_plain⟩ : ∃ fd, D_Ternary_is_plain K fd := Z.says.def_ 35 (d := (dd (.prop "Ternary" "is_plain") "is_plain" "Ternary.is_plain" (mth 30 7) [] [])) rfl
  have G_Ternary_is_plain : FnG P w K mg base CX0 2 _ fd_Ternary_is_plain ["self"] _ := ok_Ternary_is_plain Z F_Ternary_is_plain
  have po_Ternary_is_plain := prop_ok (C := "Ternary") (m := "is_plain") (Z.says.at_ 35 (d := (dd (.prop "Ternary" "is_plain") "is_plain" "Ternary.is_plain" (mth 30 7) [] [])) rfl)
  obtain ⟨fd_Ternary_init, F_Ternary_init⟩ : ∃ fd, D_Ternary_init K fd := Z.says.def_ 33 (d := (dd (.meth "Ternary" "__init__") "__init__" "Ternary.__init__" (mth 30 1) [] [])) rfl
  have G_Ternary_init : FnG P w K mg base CX0 3 _ fd_Ternary_init ["self", "number"] _ := ok_Ternary_init Z F_Ternary_init
  have me_Ternary_init := He.meth_ok (x := "Ternary") (m := "__init__") (Z.says.at_ 33 (d := (dd (.meth "Ternary" "__init__") "__init__" "Ternary.__init__" (mth 30 1) [] [])) rfl)
  have kc_Ternary := cls_Ternary (K := K) Z.says
  have mk_Ternary := He.mkr_ok (x := "Ternary") (Z.says.facts (by simp [fa, clsfacts]))
  have mc_Ternary : mg "Ternary" = some (.ref (He.ga K "Ternary")) := Z.glo "Ternary" (by decide)
  have b_next_base : Binds K fd_next_base ["x"] [] := F_next_base.bindsN fun _ _ _ _ _ _ us hl => match us, hl with | [_], _ => rfl
  have b_base_rank : Binds K fd_base_rank ["x"] [] := F_base_rank.bindsN fun _ _ _ _ _ _ us hl => match us, hl with | [_], _ => rfl
  have b_last_base : Binds K fd_last_base ["x"] [] := F_last_base.bindsN fun _ _ _ _ _ _ us hl => match us, hl with | [_], _ => rfl
  have b_plain_pair : Binds K fd_plain_pair ["m"] [] := F_plain_pair.bindsN fun _ _ _ _ _ _ us hl => match us, hl with | [_], _ => rfl
  have b_in_base : Binds K fd_in_base ["x"] [] := F_in_base.bindsN fun _ _ _ _ _ _ us hl => match us, hl with | [_], _ => rfl
  have b_Ternary_is_plain : Binds K fd_Ternary_is_plain ["self"] [] := F_Ternary_is_plain.bindsN fun _ _ _ _ _ _ us hl => match us, hl with | [_], _ => rfl
  have b_Ternary_init : Binds K fd_Ternary_init ["self", "number"] [] := F_Ternary_init.bindsN fun _ _ _ _ _ _ us hl => match us, hl with | [_, _], _ => rfl
  have sc := sc__law_between_right
  refine okP F sc rfl rfl (F := b__law_between_right) fun cdv A outer s H E hg hr => ?_
  exact ⟨_, (s_cons (s_set 1 sc.nd (d_call G_next_base hg (hr.mono (by decide)) m_next_base F_next_base.kp b_next_base .nil (fun _ => .nil) (d_cons (d_var 0) d_nil)))
    (s_cons (s_if (d_or (d_tcmp (k_neD (u64 hr)) (d_call G_last_base hg (hr.mono (by decide)) m_last_base F_last_base.kp b_last_base .nil (fun _ => .nil) (d_cons (d_var 1) d_nil)) (d_var 1)) (d_or (d_tcmp (k_neD (u64 hr)) (d_call G_base_rank hg (hr.mono (by decide)) m_base_rank F_base_rank.kp b_base_rank .nil (fun _ => .nil) (d_cons (d_var 1) d_nil)) (d_call G_base_rank hg (hr.mono (by decide)) m_base_rank F_base_rank.kp b_base_rank .nil (fun _ => .nil) (d_cons (d_op k_add (d_var 0) d_int) d_nil))) (d_or1 (d_tcmp k_le (d_var 1) (d_var 0))))).pt
    (s_one (s_ret d_bl))
    s_nil)
    (s_cons (s_for PassesOwn.never (w_rangeA fr_range (d_cons (d_op k_add (d_var 0) d_int) (d_cons (d_callB (c_min2 rfl) fr_min rfl (d_cons (d_var 1) (d_cons (d_op k_add (d_var 0) d_int) d_nil))) d_nil))) (g_name 2 sc.nd)
    (s_cons (s_asg (d_call G_plain_pair hg (hr.mono (by decide)) m_plain_pair F_plain_pair.kp b_plain_pair .nil (fun _ => .nil) (d_cons (d_var 2) d_nil)) (g_tup rfl (gs_cons (g_name 3 sc.nd) (gs_cons (g_name 4 sc.nd) gs_nil)) 2 (gsl_cons (gsl_cons gsl_nil))))
    (s_one (s_if (d_or (d_not (t_chain k_lt k_lt (d_var 3) (d_var 4) (d_var 2))) (d_or (d_not (d_tst (d_call G_in_base hg (hr.mono (by decide)) m_in_base F_in_base.kp b_in_base .nil (fun _ => .nil) (d_cons (d_var 3) d_nil)))) (d_or (d_not (d_tst (d_call G_in_base hg (hr.mono (by decide)) m_in_base F_in_base.kp b_in_base .nil (fun _ => .nil) (d_cons (d_var 4) d_nil)))) (d_or1 (d_tcmp (k_neD (u64 hr)) (d_op k_sub (d_op k_mul d_int (d_var 4)) (d_var 3)) (d_var 2)))))).pt
    (s_one (s_ret d_bl))
    s_nil))))
    (s_one (s_ret (d_prop kc_Ternary po_Ternary_is_plain G_Ternary_is_plain hg (hr.mono (by decide)) b_Ternary_is_plain (d_of (f_make kc_Ternary mk_Ternary G_Ternary_init hg (hr.mono (by decide)) mc_Ternary b_Ternary_init .nil (fun _ => .nil) (d_cons (d_var 1) d_nil)))))))))⟩
/-! law -/
def b_law : S → M Out := (sSeq (sIf (dNot (dTst (dCallU 0 f__law_first_right [] aNil)))
    (sRet (dC (.bl false)))
    sNil)
    (sSeq (sFor (iEn (aCons (dCutL (dBin catL (dVar 0) (dLst (aCons (dC (.int 0)) aNil))) partNo (partAt (dC (.int 6)))) aNil)) (gTp (gsCons (gNm 1) (gsCons (gNm 2) gsNil)))
    (sSeq (sOwn 3 (dCallU 2 f__law_stream [] (aCons (dVar 2) (aCons (dVar 1) aNil))))
    (sIf (dOr (dNot (dTst (dCallI 3 1 f__law_members_right aNil))) (dNot (dTst (dCallU 1 f__law_between_right [] (aCons (dCallI 3 1 f__law_number aNil) aNil)))))
    (sRet (dC (.bl false)))
    sNil)))
    (sRet (dC (.bl true)))))
def f_law : FnD := runP 4 b_law
theorem sc_law : FnScope ["_law_script", "_law_k", "_law_item", "_law_stream_here"] ["_law_script"] (defScope (top 40)) := ⟨rfl, rfl, rfl, by decide +kernel, rfl, by decide +kernel, by decide +kernel⟩
abbrev D_law (K : PySem.W.Frag) (fd : FuncData) : Prop := FunD K "law" "law" (defArgs (top 40)) (defBody (top 40)) (defScope (top 40)) [] [] (He.ga K "law") fd
theorem ok_law {P : Program} {w : World} {K : PySem.W.Frag} {mg : Str → Option Value} {base : Heap} (Z : Ctx K mg) {fd : FuncData} (F : D_law K fd) : FnG P w K mg base CX0 6 (He.ga K "law") fd ["_law_script"] (spP K (cl0 K) 1 f_law) := by
  have fr_enumerate : mg "enumerate" = none := Z.fre "enumerate" (by decide)
  obtain ⟨fd__law_first_right, F__law_first_right⟩ : ∃ fd, D__law_first_right K fd := Z.says.def_ 29 (d := (dd (.fn "_law_first_right") "_law_first_right" "_law_first_right" (top 37) [] [])) rfl
  have G__law_first_right : FnG P w K mg base CX0 4 _ fd__law_first_right [] _ := ok__law_first_right Z F__law_first_right
  have m__law_first_right : mg "_law_first_right" = some (.ref (He.ga K "_law_first_right")) := Z.glo "_law_first_right" (by decide)
  obtain ⟨fd__law_stream, F__law_stream⟩ : ∃ fd, D__law_stream K fd := Z.says.def_ 25 (d := (dd (.fn "_law_stream") "_law_stream" "_law_stream" (top 33) [] [])) rfl
  have G__law_stream : FnG P w K mg base CX0 2 _ fd__law_stream ["_law_item", "_law_k"] _ := ok__law_stream Z F__law_stream
  have m__law_stream : mg "_law_stream" = some (.ref (He.ga K "_law_stream")) := Z.glo "_law_stream" (by decide)
  obtain ⟨fd__law_between_right, F__law_between_right⟩ : ∃ fd, D__law_between_right K fd := Z.says.def_ 31 (d := (dd (.fn "_law_between_right") "_law_between_right" "_law_between_right" (top 39) [] [])) rfl
  have G__law_between_right : FnG P w K mg base CX0 5 _ fd__law_between_right ["_law_given"] _ := ok__law_between_right Z F__law_between_right
  have m__law_between_right : mg "_law_between_right" = some (.ref (He.ga K "_law_between_right")) := Z.glo "_law_between_right" (by decide)
  obtain ⟨fd__law_number, F__law_number⟩ : ∃ fd, D__law_number K fd := Z.says.def_ 27 (d := (dd (.fn "_law_number") "_law_number" "_law_number" (top 35) [] [])) rfl
  have G__law_number : FnG P w K mg base CX0 3 _ fd__law_number ["_law_stream_here"] _ := ok__law_number Z F__law_number
  have m__law_number : mg "_law_number" = some (.ref (He.ga K "_law_number")) := Z.glo "_law_number" (by decide)
  obtain ⟨fd__law_members_right, F__law_members_right⟩ : ∃ fd, D__law_members_right K fd := Z.says.def_ 30 (d := (dd (.fn "_law_members_right") "_law_members_right" "_law_members_right" (top 38) [] [])) rfl
  have G__law_members_right : FnG P w K mg base CX0 5 _ fd__law_members_right ["_law_stream_here"] _ := ok__law_members_right Z F__law_members_right
  have m__law_members_right : mg "_law_members_right" = some (.ref (He.ga K "_law_members_right")) := Z.glo "_law_members_right" (by decide)
  have b__law_first_right : Binds K fd__law_first_right [] [] := F__law_first_right.bindsN fun _ _ _ _ _ _ us hl => match us, hl with | [], _ => rfl
  have b__law_stream : Binds K fd__law_stream ["_law_item", "_law_k"] [] := F__law_stream.bindsN fun _ _ _ _ _ _ us hl => match us, hl with | [_, _], _ => rfl
  have b__law_between_right : Binds K fd__law_between_right ["_law_given"] [] := F__law_between_right.bindsN fun _ _ _ _ _ _ us hl => match us, hl with | [_], _ => rfl
  have b__law_number : Binds K fd__law_number ["_law_stream_here"] [] := F__law_number.bindsN fun _ _ _ _ _ _ us hl => match us, hl with | [_], _ => rfl
  have b__law_members_right : Binds K fd__law_members_right ["_law_stream_here"] [] := F__law_members_right.bindsN fun _ _ _ _ _ _ us hl => match us, hl with | [_], _ => rfl
  have sc := sc_law
  refine okP F sc rfl rfl (F := b_law) fun cdv A outer s H E hg hr => ?_
  exact ⟨_, (s_cons (s_if (d_not (d_tst (d_call0 G__law_first_right hg (hr.mono (by decide)) m__law_first_right F__law_first_right.kp b__law_first_right .nil (fun _ => .nil))))
    (s_one (s_ret d_bl))
    s_nil)
    (s_cons (s_for PassesOwn.never (w_enum fr_enumerate (d_cons (d_of (f_cutL (d_op k_catL (d_var 0) (d_of (f_lst (d_cons d_int d_nil)))) o_none (o_some d_int))) d_nil)) (g_tup rfl (gs_cons (g_name 1 sc.nd) (gs_cons (g_name 2 sc.nd) gs_nil)) 2 (gsl_cons (gsl_cons gsl_nil)))
    (s_cons (s_own 3 sc.nd (f_call G__law_stream hg (hr.mono (by decide)) m__law_stream F__law_stream.kp b__law_stream .nil (fun _ => .nil) (d_cons (d_var 2) (d_cons (d_var 1) d_nil))))
    (s_one (s_if (d_or (d_not (d_tst (d_callI 3 G__law_members_right hg (hr.mono (by decide)) m__law_members_right F__law_members_right.kp b__law_members_right d_nil))) (d_or1 (d_not (d_tst (d_call G__law_between_right hg (hr.mono (by decide)) m__law_between_right F__law_between_right.kp b__law_between_right .nil (fun _ => .nil) (d_cons (d_callI 3 G__law_number hg (hr.mono (by decide)) m__law_number F__law_number.kp b__law_number d_nil) d_nil)))))).pt
    (s_one (s_ret d_bl))
    s_nil))))
    (s_one (s_ret d_bl))))⟩
end Tf
end
noncomputable section
namespace Tf
open PySem Dt
theorem v_ninAl (d : D) (xs : List D) : ninA d (.lst xs) = ninD d (.lst xs) := by
  have h : ninA d (.lst xs) = ninD d (.lst xs) := rfl
  exact h
theorem e_is_int (i : Int) : f_is_integer [.int i, .non, .non] = ok (.bl true) := by
  simp only [f_is_integer, b_is_integer, runP, runF, runI, sSeq, sSet, sRet, sRetF, sRetN, sIf, sAsg, sPar, sPar3, sExpr, sNil, sNever, sPub, sOwn, sApp, sPut, dBin, dVar, dC, dTst, dNot, dAnd, dOr, vAnd, vOr, vNot, dIf, dTup, dLst, aNil, aCons, dCall, dCallU, dCallK, dCallI, dIsi, dOwnIx, gNm, gTp, gsNil, gsCons, iR1, iEn, iLst, dListZip, dRep, ownL, ownD, putL, putD, pubS, bd_ok', v_add, v_sub, v_lt, v_le, v_gt, v_ge, v_is0, v_is1, v_eqI, v_neI, v_isII, v_isBI, List.map_cons, List.map_nil, List.cons_append, List.nil_append, List.append_nil, List.length_cons, List.length_nil, List.replicate, List.getElem?_cons_zero, List.getElem?_cons_succ, List.set_cons_zero, List.set_cons_succ, if_true, if_false, Nat.reduceAdd, Nat.reduceSub, Nat.reduceEqDiff, Bool.false_eq_true, Bool.not_true, Bool.not_false, decide_true, decide_false, and_self, v_ninAl, dNeg, dFld, fldD, dProp, dMake, sFldPut, setF, dDic0, dChain, sForO, iRA]
theorem e_is_int0 (i : Int) (h : 0 ≤ i) : f_is_integer [.int i, .int 0, .non] = ok (.bl true) := by
  simp only [f_is_integer, b_is_integer, runP, runF, runI, sSeq, sSet, sRet, sRetF, sRetN, sIf, sAsg, sPar, sPar3, sExpr, sNil, sNever, sPub, sOwn, sApp, sPut, dBin, dVar, dC, dTst, dNot, dAnd, dOr, vAnd, vOr, vNot, dIf, dTup, dLst, aNil, aCons, dCall, dCallU, dCallK, dCallI, dIsi, dOwnIx, gNm, gTp, gsNil, gsCons, iR1, iEn, iLst, dListZip, dRep, ownL, ownD, putL, putD, pubS, bd_ok', v_add, v_sub, v_lt, v_le, v_gt, v_ge, v_is0, v_is1, v_eqI, v_neI, v_isII, v_isBI, List.map_cons, List.map_nil, List.cons_append, List.nil_append, List.append_nil, List.length_cons, List.length_nil, List.replicate, List.getElem?_cons_zero, List.getElem?_cons_succ, List.set_cons_zero, List.set_cons_succ, if_true, if_false, Nat.reduceAdd, Nat.reduceSub, Nat.reduceEqDiff, Bool.false_eq_true, Bool.not_true, Bool.not_false, decide_true, decide_false, and_self, v_ninAl, dNeg, dFld, fldD, dProp, dMake, sFldPut, setF, dDic0, dChain, sForO, iRA, h]
theorem e_check (i : Int) (h : 0 ≤ i) : f_check_number [.int i, .int 0, .non] = ok .non := by
  simp only [f_check_number, b_check_number, runP, runF, runI, sSeq, sSet, sRet, sRetF, sRetN, sIf, sAsg, sPar, sPar3, sExpr, sNil, sNever, sPub, sOwn, sApp, sPut, dBin, dVar, dC, dTst, dNot, dAnd, dOr, vAnd, vOr, vNot, dIf, dTup, dLst, aNil, aCons, dCall, dCallU, dCallK, dCallI, dIsi, dOwnIx, gNm, gTp, gsNil, gsCons, iR1, iEn, iLst, dListZip, dRep, ownL, ownD, putL, putD, pubS, bd_ok', v_add, v_sub, v_lt, v_le, v_gt, v_ge, v_is0, v_is1, v_eqI, v_neI, v_isII, v_isBI, List.map_cons, List.map_nil, List.cons_append, List.nil_append, List.append_nil, List.length_cons, List.length_nil, List.replicate, List.getElem?_cons_zero, List.getElem?_cons_succ, List.set_cons_zero, List.set_cons_succ, if_true, if_false, Nat.reduceAdd, Nat.reduceSub, Nat.reduceEqDiff, Bool.false_eq_true, Bool.not_true, Bool.not_false, decide_true, decide_false, and_self, v_ninAl, dNeg, dFld, fldD, dProp, dMake, sFldPut, setF, dDic0, dChain, sForO, iRA, e_is_int0 i h]
theorem pow10 (n : Nat) (h : n ≤ 1000000) : powI (.int 10) (.int n) = ok (.int (10 ^ n)) := by
  rw [v_pow]
  · rfl
  · refine ⟨by omega, by omega, by decide⟩
def mixed (a k : Int) : Int := ((a % 2147483647 + 7919 * k * k + 31 * k) * 48271 % 2147483647) * (69621 + 2 * k) % 2147483629
theorem mixed_pos (a k : Int) : 0 ≤ mixed a k ∧ mixed a k < 2147483629 := ⟨Int.emod_nonneg _ (by decide), Int.emod_lt_of_pos _ (by decide)⟩
theorem e_mixed (a k : Int) (h0 : 0 ≤ k) (hk : k < 2 ^ 60) : f__law_mixed [.int a, .int k] = ok (.int (mixed a k)) := by
  have h1 : -(2 ^ 64) < k := by omega
  have h2 : k < 2 ^ 64 := by omega
  have h3 := Int.emod_nonneg ((a % 2147483647 + 7919 * k * k + 31 * k) * 48271) (show (2147483647 : Int) ≠ 0 by decide)
  have h4 := Int.emod_lt_of_pos ((a % 2147483647 + 7919 * k * k + 31 * k) * 48271) (show (0 : Int) < 2147483647 by decide)
  have h5 : -(2 ^ 64) < (a % 2147483647 + 7919 * k * k + 31 * k) * 48271 % 2147483647 := by omega
  have h6 : (a % 2147483647 + 7919 * k * k + 31 * k) * 48271 % 2147483647 < 2 ^ 64 := by omega
  simp only [f__law_mixed, b__law_mixed, runP, runF, runI, sSeq, sSet, sRet, sRetF, sRetN, sIf, sAsg, sPar, sPar3, sExpr, sNil, sNever, sPub, sOwn, sApp, sPut, dBin, dVar, dC, dTst, dNot, dAnd, dOr, vAnd, vOr, vNot, dIf, dTup, dLst, aNil, aCons, dCall, dCallU, dCallK, dCallI, dIsi, dOwnIx, gNm, gTp, gsNil, gsCons, iR1, iEn, iLst, dListZip, dRep, ownL, ownD, putL, putD, pubS, bd_ok', v_add, v_sub, v_lt, v_le, v_gt, v_ge, v_is0, v_is1, v_eqI, v_neI, v_isII, v_isBI, List.map_cons, List.map_nil, List.cons_append, List.nil_append, List.append_nil, List.length_cons, List.length_nil, List.replicate, List.getElem?_cons_zero, List.getElem?_cons_succ, List.set_cons_zero, List.set_cons_succ, if_true, if_false, Nat.reduceAdd, Nat.reduceSub, Nat.reduceEqDiff, Bool.false_eq_true, Bool.not_true, Bool.not_false, decide_true, decide_false, and_self, v_ninAl, dNeg, dFld, fldD, dProp, dMake, sFldPut, setF, dDic0, dChain, sForO, iRA, v_mod (show (0 : Int) < 2147483647 by decide), v_mod (show (0 : Int) < 2147483629 by decide), v_mulL (show -(2 ^ 64) < (7919 : Int) by decide) (show (7919 : Int) < 2 ^ 64 by decide), v_mulL (show -(2 ^ 64) < (31 : Int) by decide) (show (31 : Int) < 2 ^ 64 by decide),
    v_mulL (show -(2 ^ 64) < (2 : Int) by decide) (show (2 : Int) < 2 ^ 64 by decide), v_mulR (show -(2 ^ 64) < (48271 : Int) by decide) (show (48271 : Int) < 2 ^ 64 by decide), v_mulR h1 h2, v_mulL h5 h6]
  rfl
/-- a stream of draws, its counter at most n -/
def Strm (n : Nat) (d : D) : Prop := ∃ a c m : Int, d = .lst [.int a, .int c, .int m] ∧ 0 ≤ a ∧ 0 ≤ c ∧ c ≤ n
theorem Strm.mono {n m : Nat} {d : D} (h : Strm n d) (l : n ≤ m) : Strm m d := by
  obtain ⟨a, c, x, e, h1, h2, h3⟩ := h
  exact ⟨a, c, x, e, h1, h2, by omega⟩
theorem three {x y z : D} : [x, y, z].length ≤ sizeLine := by
  show 3 ≤ 2 ^ 24
  decide
theorem e_stream (a k : Int) (h0 : 0 ≤ k) (hk : k < 2 ^ 60) : ∃ d, f__law_stream [.int a, .int k] = ok d ∧ Strm 0 d := by
  have hp := pow10 18 (by decide)
  have ht : 0 + 1 + 1 + 1 ≤ sizeLine := by
    show 3 ≤ 2 ^ 24
    decide
  by_cases h : (10 : Int) ^ 18 ≤ a
  · refine ⟨.lst [.int a, .int 0, .int (mixed a k)], ?_, a, 0, _, rfl, by omega, by omega, by omega⟩
    simp only [f__law_stream, b__law_stream, runP, runF, runI, sSeq, sSet, sRet, sRetF, sRetN, sIf, sAsg, sPar, sPar3, sExpr, sNil, sNever, sPub, sOwn, sApp, sPut, dBin, dVar, dC, dTst, dNot, dAnd, dOr, vAnd, vOr, vNot, dIf, dTup, dLst, aNil, aCons, dCall, dCallU, dCallK, dCallI, dIsi, dOwnIx, gNm, gTp, gsNil, gsCons, iR1, iEn, iLst, dListZip, dRep, ownL, ownD, putL, putD, pubS, bd_ok', v_add, v_sub, v_lt, v_le, v_gt, v_ge, v_is0, v_is1, v_eqI, v_neI, v_isII, v_isBI, List.map_cons, List.map_nil, List.cons_append, List.nil_append, List.append_nil, List.length_cons, List.length_nil, List.replicate, List.getElem?_cons_zero, List.getElem?_cons_succ, List.set_cons_zero, List.set_cons_succ, if_true, if_false, Nat.reduceAdd, Nat.reduceSub, Nat.reduceEqDiff, Bool.false_eq_true, Bool.not_true, Bool.not_false, decide_true, decide_false, and_self, v_ninAl, dNeg, dFld, fldD, dProp, dMake, sFldPut, setF, dDic0, dChain, sForO, iRA, show (18 : Int) = ((18 : Nat) : Int) from rfl, hp, e_mixed a k h0 hk, h, three, ht]
  · refine ⟨.lst [.int 0, .int 0, .int (mixed a k)], ?_, 0, 0, _, rfl, by omega, by omega, by omega⟩
    simp only [f__law_stream, b__law_stream, runP, runF, runI, sSeq, sSet, sRet, sRetF, sRetN, sIf, sAsg, sPar, sPar3, sExpr, sNil, sNever, sPub, sOwn, sApp, sPut, dBin, dVar, dC, dTst, dNot, dAnd, dOr, vAnd, vOr, vNot, dIf, dTup, dLst, aNil, aCons, dCall, dCallU, dCallK, dCallI, dIsi, dOwnIx, gNm, gTp, gsNil, gsCons, iR1, iEn, iLst, dListZip, dRep, ownL, ownD, putL, putD, pubS, bd_ok', v_add, v_sub, v_lt, v_le, v_gt, v_ge, v_is0, v_is1, v_eqI, v_neI, v_isII, v_isBI, List.map_cons, List.map_nil, List.cons_append, List.nil_append, List.append_nil, List.length_cons, List.length_nil, List.replicate, List.getElem?_cons_zero, List.getElem?_cons_succ, List.set_cons_zero, List.set_cons_succ, if_true, if_false, Nat.reduceAdd, Nat.reduceSub, Nat.reduceEqDiff, Bool.false_eq_true, Bool.not_true, Bool.not_false, decide_true, decide_false, and_self, v_ninAl, dNeg, dFld, fldD, dProp, dMake, sFldPut, setF, dDic0, dChain, sForO, iRA, show (18 : Int) = ((18 : Nat) : Int) from rfl, hp, e_mixed a k h0 hk, h, three, ht]
theorem at0 {x y z : D} : L2.atI [x, y, z] 0 = some x := rfl
theorem at1 {x y z : D} : L2.atI [x, y, z] 1 = some y := rfl
theorem at2 {x y z : D} : L2.atI [x, y, z] 2 = some z := rfl
theorem ix0 : L2.ixN 3 0 = some 0 := rfl
theorem ix1 : L2.ixN 3 1 = some 1 := rfl
theorem e_draw {n : Nat} {d : D} {top : Int} (h : Strm n d) (hn : n < 2 ^ 50) (ht : 0 < top) (hd : divOk top) : ∃ r d', f__law_draw d [.int top] = ok (.int r, d') ∧ 0 ≤ r ∧ r < top ∧ Strm (n + 1) d' := by
  obtain ⟨a, c, m, rfl, h1, h2, h3⟩ := h
  have e1 := e_mixed m (c + 1) (by omega) (by omega)
  have e2 := e_mixed (mixed m (c + 1)) 7 (by decide) (by decide)
  by_cases ha : a = 0
  · subst ha
    refine ⟨mixed (mixed m (c + 1)) 7 % top, .lst [.int 0, .int (c + 1), .int m], ?_, Int.emod_nonneg _ (by omega), Int.emod_lt_of_pos _ ht, 0, c + 1, m, rfl, by omega, by omega, by omega⟩
    simp only [f__law_draw, b__law_draw, runP, runF, runI, sSeq, sSet, sRet, sRetF, sRetN, sIf, sAsg, sPar, sPar3, sExpr, sNil, sNever, sPub, sOwn, sApp, sPut, dBin, dVar, dC, dTst, dNot, dAnd, dOr, vAnd, vOr, vNot, dIf, dTup, dLst, aNil, aCons, dCall, dCallU, dCallK, dCallI, dIsi, dOwnIx, gNm, gTp, gsNil, gsCons, iR1, iEn, iLst, dListZip, dRep, ownL, ownD, putL, putD, pubS, bd_ok', v_add, v_sub, v_lt, v_le, v_gt, v_ge, v_is0, v_is1, v_eqI, v_neI, v_isII, v_isBI, List.map_cons, List.map_nil, List.cons_append, List.nil_append, List.append_nil, List.length_cons, List.length_nil, List.replicate, List.getElem?_cons_zero, List.getElem?_cons_succ, List.set_cons_zero, List.set_cons_succ, if_true, if_false, Nat.reduceAdd, Nat.reduceSub, Nat.reduceEqDiff, Bool.false_eq_true, Bool.not_true, Bool.not_false, decide_true, decide_false, and_self, v_ninAl, dNeg, dFld, fldD, dProp, dMake, sFldPut, setF, dDic0, dChain, sForO, iRA, at0, at1, at2, ix0, ix1, e1, e2, v_mod ht]
  · refine ⟨a % top, .lst [.int (a / top), .int (c + 1), .int m], ?_, Int.emod_nonneg _ (by omega), Int.emod_lt_of_pos _ ht, a / top, c + 1, m, rfl, Int.ediv_nonneg h1 (by omega), by omega, by omega⟩
    simp only [f__law_draw, b__law_draw, runP, runF, runI, sSeq, sSet, sRet, sRetF, sRetN, sIf, sAsg, sPar, sPar3, sExpr, sNil, sNever, sPub, sOwn, sApp, sPut, dBin, dVar, dC, dTst, dNot, dAnd, dOr, vAnd, vOr, vNot, dIf, dTup, dLst, aNil, aCons, dCall, dCallU, dCallK, dCallI, dIsi, dOwnIx, gNm, gTp, gsNil, gsCons, iR1, iEn, iLst, dListZip, dRep, ownL, ownD, putL, putD, pubS, bd_ok', v_add, v_sub, v_lt, v_le, v_gt, v_ge, v_is0, v_is1, v_eqI, v_neI, v_isII, v_isBI, List.map_cons, List.map_nil, List.cons_append, List.nil_append, List.append_nil, List.length_cons, List.length_nil, List.replicate, List.getElem?_cons_zero, List.getElem?_cons_succ, List.set_cons_zero, List.set_cons_succ, if_true, if_false, Nat.reduceAdd, Nat.reduceSub, Nat.reduceEqDiff, Bool.false_eq_true, Bool.not_true, Bool.not_false, decide_true, decide_false, and_self, v_ninAl, dNeg, dFld, fldD, dProp, dMake, sFldPut, setF, dDic0, dChain, sForO, iRA, at0, at1, at2, ix0, ix1, e1, e2, v_mod ht, v_div hd, ha]
theorem divOk_nat {n : Nat} (h : 0 < n) (h2 : n < 2 ^ 9000) : divOk (n : Int) := by
  refine ⟨by omega, ?_⟩
  have : (n : Int).natAbs = n := rfl
  rw [this]
  exact (Nat.log2_lt (by omega)).mpr h2
theorem pw_lt {b n m : Nat} (hb : b ^ n < 2 ^ m) (hm : 2 ^ m ≤ 2 ^ 9000) : b ^ n < 2 ^ 9000 := Nat.lt_of_lt_of_le hb hm
theorem dv4 : divOk 4 := divOk_nat (n := 4) (by decide) (Nat.lt_of_lt_of_le (show 4 < 2 ^ 3 by decide) (Nat.pow_le_pow_right (by decide) (by decide)))
theorem dvSmall {n : Nat} (h : 0 < n) (h2 : n < 2 ^ 400) : divOk (n : Int) := divOk_nat h (Nat.lt_of_lt_of_le h2 (Nat.pow_le_pow_right (by decide) (by decide)))
/-- the number of a stream -/
theorem e_number {n : Nat} {d : D} (h : Strm n d) (hn : n < 2 ^ 49) : ∃ r d', f__law_number d [] = ok (.int r, d') ∧ 0 ≤ r ∧ r < 3 ^ 126 ∧ Strm (n + 130) d' := by
  obtain ⟨w, d1, e1, w0, w1, s1⟩ := e_draw (top := 4) h (by omega) (by decide) (dvSmall (n := 4) (by decide) (by decide))
  have p30 := pow10 30 (by decide)
  by_cases h0 : w = 0
  · subst h0
    obtain ⟨r, d2, e2, r0, r1, s2⟩ := e_draw (top := 100) s1 (by omega) (by decide) (dvSmall (n := 100) (by decide) (by decide))
    refine ⟨r, d2, ?_, r0, Int.lt_trans r1 (by decide), s2.mono (by omega)⟩
    simp only [f__law_number, b__law_number, runP, runF, runI, sSeq, sSet, sRet, sRetF, sRetN, sIf, sAsg, sPar, sPar3, sExpr, sNil, sNever, sPub, sOwn, sApp, sPut, dBin, dVar, dC, dTst, dNot, dAnd, dOr, vAnd, vOr, vNot, dIf, dTup, dLst, aNil, aCons, dCall, dCallU, dCallK, dCallI, dIsi, dOwnIx, gNm, gTp, gsNil, gsCons, iR1, iEn, iLst, dListZip, dRep, ownL, ownD, putL, putD, pubS, bd_ok', v_add, v_sub, v_lt, v_le, v_gt, v_ge, v_is0, v_is1, v_eqI, v_neI, v_isII, v_isBI, List.map_cons, List.map_nil, List.cons_append, List.nil_append, List.append_nil, List.length_cons, List.length_nil, List.replicate, List.getElem?_cons_zero, List.getElem?_cons_succ, List.set_cons_zero, List.set_cons_succ, if_true, if_false, Nat.reduceAdd, Nat.reduceSub, Nat.reduceEqDiff, Bool.false_eq_true, Bool.not_true, Bool.not_false, decide_true, decide_false, and_self, v_ninAl, dNeg, dFld, fldD, dProp, dMake, sFldPut, setF, dDic0, dChain, sForO, iRA, e1, e2]
  by_cases h1 : w = 1
  · subst h1
    obtain ⟨r, d2, e2, r0, r1, s2⟩ := e_draw (top := 10 ^ 30) s1 (by omega) (by decide) (dvSmall (n := 10 ^ 30) (by decide) (by decide))
    obtain ⟨q, d3, e3, q0, q1, s3⟩ := e_draw (top := 10 ^ 30) s2 (by omega) (by decide) (dvSmall (n := 10 ^ 30) (by decide) (by decide))
    have hr1 : -(2 ^ 64) < r := by omega
    refine ⟨r * 10 ^ 30 + q, d3, ?_, by omega, ?_, s3.mono (by omega)⟩
    · have hm : mulI (.int r) (.int (10 ^ 30)) = ok (.int (r * 10 ^ 30)) := by
        refine if_pos (.inr (.inr ?_))
        have a1 : r.natAbs < 2 ^ 100 := by omega
        have a2 : r.natAbs.log2 ≤ 100 := by
          by_cases z : r.natAbs = 0
          · rw [z]
            decide
          · exact Nat.le_of_lt ((Nat.log2_lt z).mpr a1)
        have a3 : (10 ^ 30 : Int).natAbs.log2 ≤ 100 := by decide
        omega
      simp only [f__law_number, b__law_number, runP, runF, runI, sSeq, sSet, sRet, sRetF, sRetN, sIf, sAsg, sPar, sPar3, sExpr, sNil, sNever, sPub, sOwn, sApp, sPut, dBin, dVar, dC, dTst, dNot, dAnd, dOr, vAnd, vOr, vNot, dIf, dTup, dLst, aNil, aCons, dCall, dCallU, dCallK, dCallI, dIsi, dOwnIx, gNm, gTp, gsNil, gsCons, iR1, iEn, iLst, dListZip, dRep, ownL, ownD, putL, putD, pubS, bd_ok', v_add, v_sub, v_lt, v_le, v_gt, v_ge, v_is0, v_is1, v_eqI, v_neI, v_isII, v_isBI, List.map_cons, List.map_nil, List.cons_append, List.nil_append, List.append_nil, List.length_cons, List.length_nil, List.replicate, List.getElem?_cons_zero, List.getElem?_cons_succ, List.set_cons_zero, List.set_cons_succ, if_true, if_false, Nat.reduceAdd, Nat.reduceSub, Nat.reduceEqDiff, Bool.false_eq_true, Bool.not_true, Bool.not_false, decide_true, decide_false, and_self, v_ninAl, dNeg, dFld, fldD, dProp, dMake, sFldPut, setF, dDic0, dChain, sForO, iRA, show (30 : Int) = ((30 : Nat) : Int) from rfl, p30, e1, e2, e3, hm, show ¬ (1 : Int) = 0 by decide]
    · have : (10 : Int) ^ 30 * 10 ^ 30 < 3 ^ 126 := by decide
      omega
  -- the loop
  obtain ⟨c, d2, e2, c0, c1, s2⟩ := e_draw (top := 120) s1 (by omega) (by decide) (dvSmall (n := 120) (by decide) (by decide))
  have hc : rngOk c := ⟨by omega, by omega⟩
  have len : (rangeD 0 c.toNat).length = c.toNat := rangeD_len _ _
  have loop : ∃ s', forL (gNm 3) (sSet 2 (dBin addI (dBin mulI (dC (.int 3)) (dVar 2)) (dIf (dTst (dBin eqD (dVar 1) (dC (.int 3)))) (dCallI 0 2 f__law_draw (aCons (dC (.int 2)) aNil)) (dC (.int 0))))) (rangeD 0 c.toNat) [.io d2, .val (.int w), .val (.int 1), .un] = ok (.nx s') ∧
      ∃ (dd : D) (f : Int) (x : Sl), s' = [.io dd, .val (.int w), .val (.int f), x] ∧ Strm (n + 2 + c.toNat) dd ∧ 0 ≤ f ∧ f + 1 ≤ 2 * 3 ^ c.toNat := by
    obtain ⟨s', e, dd, f, x, p1, p2, p3, p4⟩ := forL_inv (T := gNm 3) (F := sSet 2 (dBin addI (dBin mulI (dC (.int 3)) (dVar 2)) (dIf (dTst (dBin eqD (dVar 1) (dC (.int 3)))) (dCallI 0 2 f__law_draw (aCons (dC (.int 2)) aNil)) (dC (.int 0)))))
      (fun i s => ∃ (dd : D) (f : Int) (x : Sl), s = [.io dd, .val (.int w), .val (.int f), x] ∧ Strm (n + 2 + i) dd ∧ 0 ≤ f ∧ f + 1 ≤ 2 * 3 ^ i) (rangeD 0 c.toNat) 0 [.io d2, .val (.int w), .val (.int 1), .un] ⟨d2, 1, .un, rfl, s2, by decide, by decide⟩ (by
        rintro i d s hi ⟨dd, f, x, rfl, q1, q2, q3⟩
        have hi' : i < c.toNat := by
          (have := (List.getElem?_eq_some_iff.mp hi).1)
          rw [len] at this
          exact this
        rw [Nat.zero_add] at q1 q3 ⊢
        have q4 : (2 : Int) * 3 ^ (i + 1) = 3 * (2 * 3 ^ i) := by
          rw [Int.pow_succ]
          omega
        by_cases h3 : w = 3
        · subst h3
          obtain ⟨r, d3, e3, r0, r1, s3⟩ := e_draw (top := 2) q1 (by omega) (by decide) (dvSmall (n := 2) (by decide) (by decide))
          refine ⟨[.io dd, .val (.int 3), .val (.int f), .val d], [.io d3, .val (.int 3), .val (.int (3 * f + r)), .val d], rfl, ?_, d3, 3 * f + r, .val d, rfl, s3, by omega, by omega⟩
          simp only [runP, runF, runI, sSeq, sSet, sRet, sRetF, sRetN, sIf, sAsg, sPar, sPar3, sExpr, sNil, sNever, sPub, sOwn, sApp, sPut, dBin, dVar, dC, dTst, dNot, dAnd, dOr, vAnd, vOr, vNot, dIf, dTup, dLst, aNil, aCons, dCall, dCallU, dCallK, dCallI, dIsi, dOwnIx, gNm, gTp, gsNil, gsCons, iR1, iEn, iLst, dListZip, dRep, ownL, ownD, putL, putD, pubS, bd_ok', v_add, v_sub, v_lt, v_le, v_gt, v_ge, v_is0, v_is1, v_eqI, v_neI, v_isII, v_isBI, List.map_cons, List.map_nil, List.cons_append, List.nil_append, List.append_nil, List.length_cons, List.length_nil, List.replicate, List.getElem?_cons_zero, List.getElem?_cons_succ, List.set_cons_zero, List.set_cons_succ, if_true, if_false, Nat.reduceAdd, Nat.reduceSub, Nat.reduceEqDiff, Bool.false_eq_true, Bool.not_true, Bool.not_false, decide_true, decide_false, and_self, v_ninAl, dNeg, dFld, fldD, dProp, dMake, sFldPut, setF, dDic0, dChain, sForO, iRA, v_mulL (show -(2 ^ 64) < (3 : Int) by decide) (show (3 : Int) < 2 ^ 64 by decide), e3]
        · refine ⟨[.io dd, .val (.int w), .val (.int f), .val d], [.io dd, .val (.int w), .val (.int (3 * f + 0)), .val d], rfl, ?_, dd, 3 * f + 0, .val d, rfl, q1.mono (by omega), by omega, by omega⟩
          simp only [runP, runF, runI, sSeq, sSet, sRet, sRetF, sRetN, sIf, sAsg, sPar, sPar3, sExpr, sNil, sNever, sPub, sOwn, sApp, sPut, dBin, dVar, dC, dTst, dNot, dAnd, dOr, vAnd, vOr, vNot, dIf, dTup, dLst, aNil, aCons, dCall, dCallU, dCallK, dCallI, dIsi, dOwnIx, gNm, gTp, gsNil, gsCons, iR1, iEn, iLst, dListZip, dRep, ownL, ownD, putL, putD, pubS, bd_ok', v_add, v_sub, v_lt, v_le, v_gt, v_ge, v_is0, v_is1, v_eqI, v_neI, v_isII, v_isBI, List.map_cons, List.map_nil, List.cons_append, List.nil_append, List.append_nil, List.length_cons, List.length_nil, List.replicate, List.getElem?_cons_zero, List.getElem?_cons_succ, List.set_cons_zero, List.set_cons_succ, if_true, if_false, Nat.reduceAdd, Nat.reduceSub, Nat.reduceEqDiff, Bool.false_eq_true, Bool.not_true, Bool.not_false, decide_true, decide_false, and_self, v_ninAl, dNeg, dFld, fldD, dProp, dMake, sFldPut, setF, dDic0, dChain, sForO, iRA, v_mulL (show -(2 ^ 64) < (3 : Int) by decide) (show (3 : Int) < 2 ^ 64 by decide), h3])
    rw [len, Nat.zero_add] at p2 p4
    exact ⟨s', e, dd, f, x, p1, p2, p3, p4⟩
  obtain ⟨_, eL, d3, f, x, rfl, s3, f0, f1⟩ := loop
  obtain ⟨q, d4, e4, q0, q1, s4⟩ := e_draw (top := 3) s3 (by omega) (by decide) (dvSmall (n := 3) (by decide) (by decide))
  have pc : (3 : Int) ^ c.toNat ≤ 3 ^ 119 := by
    have z : (3 : Nat) ^ c.toNat ≤ 3 ^ 119 := Nat.pow_le_pow_right (by decide) (by omega)
    exact_mod_cast z
  have p126 : (2 : Int) * 3 ^ 119 + 10 < 3 ^ 126 := by decide
  refine ⟨if f + q - 1 > 0 then f + q - 1 else 0, d4, ?_, by split <;> omega, by split <;> omega, s4.mono (by omega)⟩
  simp only [f__law_number, b__law_number, sFor, max2N, runP, runF, runI, sSeq, sSet, sRet, sRetF, sRetN, sIf, sAsg, sPar, sPar3, sExpr, sNil, sNever, sPub, sOwn, sApp, sPut, dBin, dVar, dC, dTst, dNot, dAnd, dOr, vAnd, vOr, vNot, dIf, dTup, dLst, aNil, aCons, dCall, dCallU, dCallK, dCallI, dIsi, dOwnIx, gNm, gTp, gsNil, gsCons, iR1, iEn, iLst, dListZip, dRep, ownL, ownD, putL, putD, pubS, bd_ok', v_add, v_sub, v_lt, v_le, v_gt, v_ge, v_is0, v_is1, v_eqI, v_neI, v_isII, v_isBI, List.map_cons, List.map_nil, List.cons_append, List.nil_append, List.append_nil, List.length_cons, List.length_nil, List.replicate, List.getElem?_cons_zero, List.getElem?_cons_succ, List.set_cons_zero, List.set_cons_succ, if_true, if_false, Nat.reduceAdd, Nat.reduceSub, Nat.reduceEqDiff, Bool.false_eq_true, Bool.not_true, Bool.not_false, decide_true, decide_false, and_self, v_ninAl, dNeg, dFld, fldD, dProp, dMake, sFldPut, setF, dDic0, dChain, sForO, iRA, e1, e2, h0, h1, hc, eL, e4]
def dg (r n : Nat) : List Nat := if h : n = 0 ∨ r < 2 then [] else n % r :: dg r (n / r)
termination_by n
decreasing_by
  have h1 : n ≠ 0 := fun e => h (.inl e)
  exact Nat.div_lt_self (by omega) (by omega)
theorem dg_zero (r : Nat) : dg r 0 = [] := by
  rw [dg, dif_pos (.inl rfl)]
theorem dg_pos {r n : Nat} (hr : 2 ≤ r) (h : 0 < n) : dg r n = n % r :: dg r (n / r) := by
  rw [dg, dif_neg (by omega)]
theorem dg_len {r : Nat} (hr : 2 ≤ r) : ∀ (k n : Nat), n < r ^ k → (dg r n).length ≤ k
  | 0, n, h => by
    have : n = 0 := by simpa using h
    rw [this, dg_zero]
    exact Nat.le_refl _
  | k + 1, n, h => by
    by_cases z : n = 0
    · rw [z, dg_zero]
      exact Nat.zero_le _
    · rw [dg_pos hr (by omega), List.length_cons]
      have : n / r < r ^ k := by
        rw [Nat.div_lt_iff_lt_mul (by omega)]
        rw [Nat.pow_succ] at h
        exact h
      have := dg_len hr k (n / r) this
      omega
theorem szl {n : Nat} (h : n ≤ 300) : n < sizeLine := by
  show n < 2 ^ 24
  omega
abbrev iN (ns : List Nat) : List D := iD (ns.map fun (k : Nat) => (k : Int))
theorem digits_in_loop {r : Nat} (hr : 2 ≤ r) (hr2 : r < 2 ^ 20) : ∀ (k n : Nat) (acc : List Nat) (x : Sl), n < r ^ k → acc.length + k ≤ 300 →
    ∃ y, sWhile (dTst (dBin gtI (dVar 0) (dC (.int 0)))) (sSeq (sAsg (dCall divmodN (aCons (dVar 0) (aCons (dVar 1) aNil))) (gTp (gsCons (gNm 0) (gsCons (gNm 3) gsNil)))) (sApp 2 (dVar 3))) [.val (.int n), .val (.int r), .own (.lst (iN acc)), x] = ok (.nx [.val (.int 0), .val (.int r), .own (.lst (iN (acc ++ dg r n))), y])
  | k, n, acc, x, h, hl => by
    by_cases z : n = 0
    · subst z
      rw [dg_zero, List.append_nil]
      refine ⟨x, while_end ?_⟩
      simp only [runP, runF, runI, sSeq, sSet, sRet, sRetF, sRetN, sIf, sAsg, sPar, sPar3, sExpr, sNil, sNever, sPub, sOwn, sApp, sPut, dBin, dVar, dC, dTst, dNot, dAnd, dOr, vAnd, vOr, vNot, dIf, dTup, dLst, aNil, aCons, dCall, dCallU, dCallK, dCallI, dIsi, dOwnIx, gNm, gTp, gsNil, gsCons, iR1, iEn, iLst, dListZip, dRep, ownL, ownD, putL, putD, pubS, bd_ok', v_add, v_sub, v_lt, v_le, v_gt, v_ge, v_is0, v_is1, v_eqI, v_neI, v_isII, v_isBI, List.map_cons, List.map_nil, List.cons_append, List.nil_append, List.append_nil, List.length_cons, List.length_nil, List.replicate, List.getElem?_cons_zero, List.getElem?_cons_succ, List.set_cons_zero, List.set_cons_succ, if_true, if_false, Nat.reduceAdd, Nat.reduceSub, Nat.reduceEqDiff, Bool.false_eq_true, Bool.not_true, Bool.not_false, decide_true, decide_false, and_self, v_ninAl, dNeg, dFld, fldD, dProp, dMake, sFldPut, setF, dDic0, dChain, sForO, iRA]
      rfl
    · cases k with
      | zero => exact absurd (by simpa using h) z
      | succ k =>
        have q : n / r < r ^ k := by
          rw [Nat.div_lt_iff_lt_mul (by omega)]
          rw [Nat.pow_succ] at h
          exact h
        obtain ⟨y, ih⟩ := digits_in_loop hr hr2 k (n / r) (acc ++ [n % r]) (.val (.int ((n : Int) % r))) q (by rw [List.length_append]; simp; omega)
        rw [List.append_assoc, List.singleton_append, ← dg_pos hr (by omega)] at ih
        have hp : divOk (r : Int) := divOk_nat (by omega) (Nat.lt_of_lt_of_le hr2 (Nat.pow_le_pow_right (by decide) (by decide)))
        have hn : (0 : Int) < n := by omega
        have hz : (iN acc).length < sizeLine := by
          rw [List.length_map, List.length_map]
          exact szl (by omega)
        have e1 : iN acc ++ [.int ((n : Int) % r)] = iN (acc ++ [n % r]) := by
          simp
        have e2 : ((n : Int) / r) = ((n / r : Nat) : Int) := rfl
        refine ⟨y, while_go ?_ ?_ ih⟩
        · simp only [runP, runF, runI, sSeq, sSet, sRet, sRetF, sRetN, sIf, sAsg, sPar, sPar3, sExpr, sNil, sNever, sPub, sOwn, sApp, sPut, dBin, dVar, dC, dTst, dNot, dAnd, dOr, vAnd, vOr, vNot, dIf, dTup, dLst, aNil, aCons, dCall, dCallU, dCallK, dCallI, dIsi, dOwnIx, gNm, gTp, gsNil, gsCons, iR1, iEn, iLst, dListZip, dRep, ownL, ownD, putL, putD, pubS, bd_ok', v_add, v_sub, v_lt, v_le, v_gt, v_ge, v_is0, v_is1, v_eqI, v_neI, v_isII, v_isBI, List.map_cons, List.map_nil, List.cons_append, List.nil_append, List.append_nil, List.length_cons, List.length_nil, List.replicate, List.getElem?_cons_zero, List.getElem?_cons_succ, List.set_cons_zero, List.set_cons_succ, if_true, if_false, Nat.reduceAdd, Nat.reduceSub, Nat.reduceEqDiff, Bool.false_eq_true, Bool.not_true, Bool.not_false, decide_true, decide_false, and_self, v_ninAl, dNeg, dFld, fldD, dProp, dMake, sFldPut, setF, dDic0, dChain, sForO, iRA, hn]
        · simp only [runP, runF, runI, sSeq, sSet, sRet, sRetF, sRetN, sIf, sAsg, sPar, sPar3, sExpr, sNil, sNever, sPub, sOwn, sApp, sPut, dBin, dVar, dC, dTst, dNot, dAnd, dOr, vAnd, vOr, vNot, dIf, dTup, dLst, aNil, aCons, dCall, dCallU, dCallK, dCallI, dIsi, dOwnIx, gNm, gTp, gsNil, gsCons, iR1, iEn, iLst, dListZip, dRep, ownL, ownD, putL, putD, pubS, bd_ok', v_add, v_sub, v_lt, v_le, v_gt, v_ge, v_is0, v_is1, v_eqI, v_neI, v_isII, v_isBI, List.map_cons, List.map_nil, List.cons_append, List.nil_append, List.append_nil, List.length_cons, List.length_nil, List.replicate, List.getElem?_cons_zero, List.getElem?_cons_succ, List.set_cons_zero, List.set_cons_succ, if_true, if_false, Nat.reduceAdd, Nat.reduceSub, Nat.reduceEqDiff, Bool.false_eq_true, Bool.not_true, Bool.not_false, decide_true, decide_false, and_self, v_ninAl, dNeg, dFld, fldD, dProp, dMake, sFldPut, setF, dDic0, dChain, sForO, iRA, divmodN, hp, hz, e1, e2]
theorem e_digits_in {r : Nat} (hr : 2 ≤ r) (hr2 : r < 2 ^ 20) (n : Nat) (h : n < r ^ 300) : f_digits_in [.int n, .int r] = ok (.lst (iN (dg r n).reverse)) := by
  obtain ⟨y, e⟩ := digits_in_loop hr hr2 300 n [] .un h (by simp)
  have e : _ = ok (Out.nx [Sl.val (D.int 0), Sl.val (D.int r), Sl.own (D.lst (iN (dg r n))), y]) := e
  simp only [iN, iD, List.map_nil] at e
  have h0 : 0 ≤ sizeLine := Nat.zero_le _
  have er : iN (dg r n).reverse = (iN (dg r n)).reverse := by simp
  rw [er]
  simp only [f_digits_in, b_digits_in, dRev, runP, runF, runI, sSeq, sSet, sRet, sRetF, sRetN, sIf, sAsg, sPar, sPar3, sExpr, sNil, sNever, sPub, sOwn, sApp, sPut, dBin, dVar, dC, dTst, dNot, dAnd, dOr, vAnd, vOr, vNot, dIf, dTup, dLst, aNil, aCons, dCall, dCallU, dCallK, dCallI, dIsi, dOwnIx, gNm, gTp, gsNil, gsCons, iR1, iEn, iLst, dListZip, dRep, ownL, ownD, putL, putD, pubS, bd_ok', v_add, v_sub, v_lt, v_le, v_gt, v_ge, v_is0, v_is1, v_eqI, v_neI, v_isII, v_isBI, List.map_cons, List.map_nil, List.cons_append, List.nil_append, List.append_nil, List.length_cons, List.length_nil, List.replicate, List.getElem?_cons_zero, List.getElem?_cons_succ, List.set_cons_zero, List.set_cons_succ, if_true, if_false, Nat.reduceAdd, Nat.reduceSub, Nat.reduceEqDiff, Bool.false_eq_true, Bool.not_true, Bool.not_false, decide_true, decide_false, and_self, v_ninAl, dNeg, dFld, fldD, dProp, dMake, sFldPut, setF, dDic0, dChain, sForO, iRA, h0, e]
theorem mem_iN {k : Nat} {ns : List Nat} : ((k : Int) ∈ ns.map fun (j : Nat) => (j : Int)) ↔ k ∈ ns := by
  rw [List.mem_map]
  exact ⟨fun ⟨a, h, e⟩ => by rwa [← Int.ofNat_inj.mp e], fun h => ⟨k, h, rfl⟩⟩
def vr (r : Nat) (ds : List Nat) : Nat := ds.foldr (fun d f => f * r + d) 0
theorem nb_loop (a : Sl) (r : Nat) (hr : r < 2 ^ 20) : ∀ (ds : List Nat) (acc : Nat) (x : Sl), ∃ y, forL (gNm 3) (sSet 2 (dBin addI (dBin mulI (dVar 2) (dVar 1)) (dVar 3))) (iN ds) [a, .val (.int r), .val (.int acc), x] = ok (.nx [a, .val (.int r), .val (.int (ds.foldl (fun f d => f * r + d) acc : Nat)), y])
  | [], acc, x => ⟨x, rfl⟩
  | d :: ds, acc, x => by
    obtain ⟨y, e⟩ := nb_loop a r hr ds (acc * r + d) (.val (.int d))
    have m := fun i : Int => v_mulR (i := i) (j := (r : Int)) (by omega) (by omega)
    have ez : ((acc * r + d : Nat) : Int) = (acc : Int) * r + d := by simp
    refine ⟨y, Eq.trans (forL_cons (s1 := [a, .val (.int r), .val (.int acc), .val (.int d)]) rfl ?_) e⟩
    rw [ez]
    simp only [runP, runF, runI, sSeq, sSet, sRet, sRetF, sRetN, sIf, sAsg, sPar, sPar3, sExpr, sNil, sNever, sPub, sOwn, sApp, sPut, dBin, dVar, dC, dTst, dNot, dAnd, dOr, vAnd, vOr, vNot, dIf, dTup, dLst, aNil, aCons, dCall, dCallU, dCallK, dCallI, dIsi, dOwnIx, gNm, gTp, gsNil, gsCons, iR1, iEn, iLst, dListZip, dRep, ownL, ownD, putL, putD, pubS, bd_ok', v_add, v_sub, v_lt, v_le, v_gt, v_ge, v_is0, v_is1, v_eqI, v_neI, v_isII, v_isBI, List.map_cons, List.map_nil, List.cons_append, List.nil_append, List.append_nil, List.length_cons, List.length_nil, List.replicate, List.getElem?_cons_zero, List.getElem?_cons_succ, List.set_cons_zero, List.set_cons_succ, if_true, if_false, Nat.reduceAdd, Nat.reduceSub, Nat.reduceEqDiff, Bool.false_eq_true, Bool.not_true, Bool.not_false, decide_true, decide_false, and_self, v_ninAl, dNeg, dFld, fldD, dProp, dMake, sFldPut, setF, dDic0, dChain, sForO, iRA, m]
theorem e_number_of (r : Nat) (hr : r < 2 ^ 20) (ds : List Nat) : f_number_of [.lst (iN ds.reverse), .int r] = ok (.int (vr r ds)) := by
  obtain ⟨y, e⟩ := nb_loop (.val (.lst (iN ds.reverse))) r hr ds.reverse 0 .un
  rw [List.foldl_reverse] at e
  have e : forL _ _ _ [.val (.lst (iN ds.reverse)), .val (.int r), .val (.int 0), .un] = ok (.nx [.val (.lst (iN ds.reverse)), .val (.int r), .val (.int (vr r ds)), y]) := e
  simp only [f_number_of, b_number_of, sFor, runP, runF, runI, sSeq, sSet, sRet, sRetF, sRetN, sIf, sAsg, sPar, sPar3, sExpr, sNil, sNever, sPub, sOwn, sApp, sPut, dBin, dVar, dC, dTst, dNot, dAnd, dOr, vAnd, vOr, vNot, dIf, dTup, dLst, aNil, aCons, dCall, dCallU, dCallK, dCallI, dIsi, dOwnIx, gNm, gTp, gsNil, gsCons, iR1, iEn, iLst, dListZip, dRep, ownL, ownD, putL, putD, pubS, bd_ok', v_add, v_sub, v_lt, v_le, v_gt, v_ge, v_is0, v_is1, v_eqI, v_neI, v_isII, v_isBI, List.map_cons, List.map_nil, List.cons_append, List.nil_append, List.append_nil, List.length_cons, List.length_nil, List.replicate, List.getElem?_cons_zero, List.getElem?_cons_succ, List.set_cons_zero, List.set_cons_succ, if_true, if_false, Nat.reduceAdd, Nat.reduceSub, Nat.reduceEqDiff, Bool.false_eq_true, Bool.not_true, Bool.not_false, decide_true, decide_false, and_self, v_ninAl, dNeg, dFld, fldD, dProp, dMake, sFldPut, setF, dDic0, dChain, sForO, iRA, e]
def Bm (n : Nat) : Nat := if h : n = 0 then 0 else 3 * Bm (n / 2) + n % 2
termination_by n
decreasing_by omega
theorem Bm_zero : Bm 0 = 0 := by
  rw [Bm, dif_pos rfl]
theorem Bm_rec (n : Nat) : Bm n = 3 * Bm (n / 2) + n % 2 := by
  by_cases z : n = 0
  · subst z
    rw [Bm_zero]
  · rw [Bm, dif_neg z]
theorem vr_dg (n : Nat) : vr 3 (dg 2 n) = Bm n := by
  induction n using Nat.strongRecOn with | _ n ih =>
    by_cases z : n = 0
    · subst z
      rw [dg_zero, Bm_zero]
      rfl
    · rw [dg_pos (by decide) (by omega), Bm_rec]
      show vr 3 (dg 2 (n / 2)) * 3 + n % 2 = _
      rw [ih (n / 2) (by omega)]
      omega
theorem e_member_at (n : Nat) (h : n < 2 ^ 300) : f_member_at [.int n] = ok (.int (Bm n)) := by
  have e1 : f_digits_in [.int n, .int 2] = _ := e_digits_in (r := 2) (by decide) (by decide) n h
  have e2 : f_number_of [.lst (iN (dg 2 n).reverse), .int 3] = _ := e_number_of 3 (by decide) (dg 2 n)
  rw [vr_dg] at e2
  simp only [f_member_at, b_member_at, runP, runF, runI, sSeq, sSet, sRet, sRetF, sRetN, sIf, sAsg, sPar, sPar3, sExpr, sNil, sNever, sPub, sOwn, sApp, sPut, dBin, dVar, dC, dTst, dNot, dAnd, dOr, vAnd, vOr, vNot, dIf, dTup, dLst, aNil, aCons, dCall, dCallU, dCallK, dCallI, dIsi, dOwnIx, gNm, gTp, gsNil, gsCons, iR1, iEn, iLst, dListZip, dRep, ownL, ownD, putL, putD, pubS, bd_ok', v_add, v_sub, v_lt, v_le, v_gt, v_ge, v_is0, v_is1, v_eqI, v_neI, v_isII, v_isBI, List.map_cons, List.map_nil, List.cons_append, List.nil_append, List.append_nil, List.length_cons, List.length_nil, List.replicate, List.getElem?_cons_zero, List.getElem?_cons_succ, List.set_cons_zero, List.set_cons_succ, if_true, if_false, Nat.reduceAdd, Nat.reduceSub, Nat.reduceEqDiff, Bool.false_eq_true, Bool.not_true, Bool.not_false, decide_true, decide_false, and_self, v_ninAl, dNeg, dFld, fldD, dProp, dMake, sFldPut, setF, dDic0, dChain, sForO, iRA, e1, e2]
theorem e_member (n : Nat) (h : n < 2 ^ 300) : f_base_member [.int n] = ok (.int (Bm n)) := by
  have e1 := e_check n (by omega)
  have e2 := e_member_at n h
  simp only [f_base_member, b_base_member, runP, runF, runI, sSeq, sSet, sRet, sRetF, sRetN, sIf, sAsg, sPar, sPar3, sExpr, sNil, sNever, sPub, sOwn, sApp, sPut, dBin, dVar, dC, dTst, dNot, dAnd, dOr, vAnd, vOr, vNot, dIf, dTup, dLst, aNil, aCons, dCall, dCallU, dCallK, dCallI, dIsi, dOwnIx, gNm, gTp, gsNil, gsCons, iR1, iEn, iLst, dListZip, dRep, ownL, ownD, putL, putD, pubS, bd_ok', v_add, v_sub, v_lt, v_le, v_gt, v_ge, v_is0, v_is1, v_eqI, v_neI, v_isII, v_isBI, List.map_cons, List.map_nil, List.cons_append, List.nil_append, List.append_nil, List.length_cons, List.length_nil, List.replicate, List.getElem?_cons_zero, List.getElem?_cons_succ, List.set_cons_zero, List.set_cons_succ, if_true, if_false, Nat.reduceAdd, Nat.reduceSub, Nat.reduceEqDiff, Bool.false_eq_true, Bool.not_true, Bool.not_false, decide_true, decide_false, and_self, v_ninAl, dNeg, dFld, fldD, dProp, dMake, sFldPut, setF, dDic0, dChain, sForO, iRA, e1, e2]
theorem e_is_int1 (i : Int) (h : 1 ≤ i) : f_is_integer [.int i, .int 1, .non] = ok (.bl true) := by
  simp only [f_is_integer, b_is_integer, runP, runF, runI, sSeq, sSet, sRet, sRetF, sRetN, sIf, sAsg, sPar, sPar3, sExpr, sNil, sNever, sPub, sOwn, sApp, sPut, dBin, dVar, dC, dTst, dNot, dAnd, dOr, vAnd, vOr, vNot, dIf, dTup, dLst, aNil, aCons, dCall, dCallU, dCallK, dCallI, dIsi, dOwnIx, gNm, gTp, gsNil, gsCons, iR1, iEn, iLst, dListZip, dRep, ownL, ownD, putL, putD, pubS, bd_ok', v_add, v_sub, v_lt, v_le, v_gt, v_ge, v_is0, v_is1, v_eqI, v_neI, v_isII, v_isBI, List.map_cons, List.map_nil, List.cons_append, List.nil_append, List.append_nil, List.length_cons, List.length_nil, List.replicate, List.getElem?_cons_zero, List.getElem?_cons_succ, List.set_cons_zero, List.set_cons_succ, if_true, if_false, Nat.reduceAdd, Nat.reduceSub, Nat.reduceEqDiff, Bool.false_eq_true, Bool.not_true, Bool.not_false, decide_true, decide_false, and_self, v_ninAl, dNeg, dFld, fldD, dProp, dMake, sFldPut, setF, dDic0, dChain, sForO, iRA, h]
theorem e_check1 (i : Int) (h : 1 ≤ i) : f_check_number [.int i, .int 1, .non] = ok .non := by
  simp only [f_check_number, b_check_number, runP, runF, runI, sSeq, sSet, sRet, sRetF, sRetN, sIf, sAsg, sPar, sPar3, sExpr, sNil, sNever, sPub, sOwn, sApp, sPut, dBin, dVar, dC, dTst, dNot, dAnd, dOr, vAnd, vOr, vNot, dIf, dTup, dLst, aNil, aCons, dCall, dCallU, dCallK, dCallI, dIsi, dOwnIx, gNm, gTp, gsNil, gsCons, iR1, iEn, iLst, dListZip, dRep, ownL, ownD, putL, putD, pubS, bd_ok', v_add, v_sub, v_lt, v_le, v_gt, v_ge, v_is0, v_is1, v_eqI, v_neI, v_isII, v_isBI, List.map_cons, List.map_nil, List.cons_append, List.nil_append, List.append_nil, List.length_cons, List.length_nil, List.replicate, List.getElem?_cons_zero, List.getElem?_cons_succ, List.set_cons_zero, List.set_cons_succ, if_true, if_false, Nat.reduceAdd, Nat.reduceSub, Nat.reduceEqDiff, Bool.false_eq_true, Bool.not_true, Bool.not_false, decide_true, decide_false, and_self, v_ninAl, dNeg, dFld, fldD, dProp, dMake, sFldPut, setF, dDic0, dChain, sForO, iRA, e_is_int1 i h]
def v2 (n : Nat) : Nat := if h : n = 0 ∨ n % 2 = 1 then 0 else v2 (n / 2) + 1
termination_by n
decreasing_by omega
theorem v2_odd {n : Nat} (h : n % 2 = 1) : v2 n = 0 := by
  rw [v2, dif_pos (.inr h)]
theorem v2_even {n : Nat} (h0 : n ≠ 0) (h : n % 2 = 0) : v2 n = v2 (n / 2) + 1 := by
  rw [v2, dif_neg (by omega)]
def due (n : Nat) : Nat := (3 ^ v2 n + 1) / 2
theorem odd3 : ∀ k : Nat, 3 ^ k % 2 = 1
  | 0 => rfl
  | k + 1 => by
    have := odd3 k
    rw [Nat.pow_succ]
    omega
theorem Bm_gap (n : Nat) (h : 0 < n) : Bm n = Bm (n - 1) + due n := by
  induction n using Nat.strongRecOn with | _ n ih =>
    rcases Nat.mod_two_eq_zero_or_one n with c | c
    · have i2 := ih (n / 2) (by omega) (by omega)
      unfold due at i2 ⊢
      rw [v2_even (by omega) c, Nat.pow_succ]
      have o := odd3 (v2 (n / 2))
      rw [Bm_rec n, Bm_rec (n - 1)]
      have e1 : (n - 1) / 2 = n / 2 - 1 := by omega
      rw [e1]
      omega
    · unfold due
      rw [v2_odd c, Bm_rec n, Bm_rec (n - 1)]
      have e1 : (n - 1) / 2 = n / 2 := by omega
      rw [e1]
      omega
theorem dv2 : divOk 2 := dvSmall (n := 2) (by decide) (by decide)
theorem gap_loop (n : Nat) : 0 < n → ∀ f : Nat, ∃ y, sWhile (dTst (dBin eqD (dBin modI (dVar 0) (dC (.int 2))) (dC (.int 0)))) (sPar 0 1 (aCons (dBin divI (dVar 0) (dC (.int 2))) (aCons (dBin mulI (dVar 1) (dC (.int 3))) aNil))) [.val (.int n), .val (.int f)] = ok (.nx [y, .val (.int (f * 3 ^ v2 n : Nat))]) := by
  induction n using Nat.strongRecOn with | _ n ih =>
    intro hn f
    have p2 : (0 : Int) < 2 := by decide
    have e1 : (n : Int) % 2 = ((n % 2 : Nat) : Int) := rfl
    have e2 : (n : Int) / 2 = ((n / 2 : Nat) : Int) := rfl
    have m3 := fun i : Int => v_mulR (i := i) (show -(2 ^ 64) < (3 : Int) by decide) (show (3 : Int) < 2 ^ 64 by decide)
    rcases Nat.mod_two_eq_zero_or_one n with c | c
    · obtain ⟨y, e⟩ := ih (n / 2) (by omega) (by omega) (f * 3)
      have ez : ((f * 3 : Nat) : Int) = (f : Int) * 3 := by omega
      have z : ((n % 2 : Nat) : Int) = 0 := by omega
      refine ⟨y, while_go (s2 := [.val (.int (n / 2 : Nat)), .val (.int (f * 3 : Nat))]) ?_ ?_ (e.trans ?_)⟩
      · simp only [runP, runF, runI, sSeq, sSet, sRet, sRetF, sRetN, sIf, sAsg, sPar, sPar3, sExpr, sNil, sNever, sPub, sOwn, sApp, sPut, dBin, dVar, dC, dTst, dNot, dAnd, dOr, vAnd, vOr, vNot, dIf, dTup, dLst, aNil, aCons, dCall, dCallU, dCallK, dCallI, dIsi, dOwnIx, gNm, gTp, gsNil, gsCons, iR1, iEn, iLst, dListZip, dRep, ownL, ownD, putL, putD, pubS, bd_ok', v_add, v_sub, v_lt, v_le, v_gt, v_ge, v_is0, v_is1, v_eqI, v_neI, v_isII, v_isBI, List.map_cons, List.map_nil, List.cons_append, List.nil_append, List.append_nil, List.length_cons, List.length_nil, List.replicate, List.getElem?_cons_zero, List.getElem?_cons_succ, List.set_cons_zero, List.set_cons_succ, if_true, if_false, Nat.reduceAdd, Nat.reduceSub, Nat.reduceEqDiff, Bool.false_eq_true, Bool.not_true, Bool.not_false, decide_true, decide_false, and_self, v_ninAl, dNeg, dFld, fldD, dProp, dMake, sFldPut, setF, dDic0, dChain, sForO, iRA, v_mod p2, e1, z]
      · rw [ez]
        simp only [runP, runF, runI, sSeq, sSet, sRet, sRetF, sRetN, sIf, sAsg, sPar, sPar3, sExpr, sNil, sNever, sPub, sOwn, sApp, sPut, dBin, dVar, dC, dTst, dNot, dAnd, dOr, vAnd, vOr, vNot, dIf, dTup, dLst, aNil, aCons, dCall, dCallU, dCallK, dCallI, dIsi, dOwnIx, gNm, gTp, gsNil, gsCons, iR1, iEn, iLst, dListZip, dRep, ownL, ownD, putL, putD, pubS, bd_ok', v_add, v_sub, v_lt, v_le, v_gt, v_ge, v_is0, v_is1, v_eqI, v_neI, v_isII, v_isBI, List.map_cons, List.map_nil, List.cons_append, List.nil_append, List.append_nil, List.length_cons, List.length_nil, List.replicate, List.getElem?_cons_zero, List.getElem?_cons_succ, List.set_cons_zero, List.set_cons_succ, if_true, if_false, Nat.reduceAdd, Nat.reduceSub, Nat.reduceEqDiff, Bool.false_eq_true, Bool.not_true, Bool.not_false, decide_true, decide_false, and_self, v_ninAl, dNeg, dFld, fldD, dProp, dMake, sFldPut, setF, dDic0, dChain, sForO, iRA, v_div dv2, e2, m3]
      · rw [v2_even (by omega) c, Nat.pow_succ, Nat.mul_assoc, Nat.mul_comm 3]
    · have z : ¬ ((n % 2 : Nat) : Int) = 0 := by omega
      rw [v2_odd c, Nat.pow_zero, Nat.mul_one]
      refine ⟨_, while_stop ?_⟩
      simp only [runP, runF, runI, sSeq, sSet, sRet, sRetF, sRetN, sIf, sAsg, sPar, sPar3, sExpr, sNil, sNever, sPub, sOwn, sApp, sPut, dBin, dVar, dC, dTst, dNot, dAnd, dOr, vAnd, vOr, vNot, dIf, dTup, dLst, aNil, aCons, dCall, dCallU, dCallK, dCallI, dIsi, dOwnIx, gNm, gTp, gsNil, gsCons, iR1, iEn, iLst, dListZip, dRep, ownL, ownD, putL, putD, pubS, bd_ok', v_add, v_sub, v_lt, v_le, v_gt, v_ge, v_is0, v_is1, v_eqI, v_neI, v_isII, v_isBI, List.map_cons, List.map_nil, List.cons_append, List.nil_append, List.append_nil, List.length_cons, List.length_nil, List.replicate, List.getElem?_cons_zero, List.getElem?_cons_succ, List.set_cons_zero, List.set_cons_succ, if_true, if_false, Nat.reduceAdd, Nat.reduceSub, Nat.reduceEqDiff, Bool.false_eq_true, Bool.not_true, Bool.not_false, decide_true, decide_false, and_self, v_ninAl, dNeg, dFld, fldD, dProp, dMake, sFldPut, setF, dDic0, dChain, sForO, iRA, v_mod p2, e1, z]
theorem e_gap (n : Nat) (h : 0 < n) : f_base_gap [.int n] = ok (.int (due n)) := by
  obtain ⟨y, e⟩ := gap_loop n h 1
  rw [Nat.one_mul] at e
  have e : sWhile _ _ [.val (.int n), .val (.int 1)] = _ := e
  have e1 := e_check1 n (by omega)
  have e2 : (((3 ^ v2 n : Nat) : Int) + 1) / 2 = (due n : Int) := rfl
  simp only [f_base_gap, b_base_gap, runP, runF, runI, sSeq, sSet, sRet, sRetF, sRetN, sIf, sAsg, sPar, sPar3, sExpr, sNil, sNever, sPub, sOwn, sApp, sPut, dBin, dVar, dC, dTst, dNot, dAnd, dOr, vAnd, vOr, vNot, dIf, dTup, dLst, aNil, aCons, dCall, dCallU, dCallK, dCallI, dIsi, dOwnIx, gNm, gTp, gsNil, gsCons, iR1, iEn, iLst, dListZip, dRep, ownL, ownD, putL, putD, pubS, bd_ok', v_add, v_sub, v_lt, v_le, v_gt, v_ge, v_is0, v_is1, v_eqI, v_neI, v_isII, v_isBI, List.map_cons, List.map_nil, List.cons_append, List.nil_append, List.append_nil, List.length_cons, List.length_nil, List.replicate, List.getElem?_cons_zero, List.getElem?_cons_succ, List.set_cons_zero, List.set_cons_succ, if_true, if_false, Nat.reduceAdd, Nat.reduceSub, Nat.reduceEqDiff, Bool.false_eq_true, Bool.not_true, Bool.not_false, decide_true, decide_false, and_self, v_ninAl, dNeg, dFld, fldD, dProp, dMake, sFldPut, setF, dDic0, dChain, sForO, iRA, e1, e, v_div dv2, e2]
theorem Bm_lt (n : Nat) : Bm n < Bm (n + 1) := by
  have h := Bm_gap (n + 1) (by omega)
  rw [Nat.add_sub_cancel] at h
  have o := odd3 (v2 (n + 1))
  unfold due at h
  generalize 3 ^ v2 (n + 1) = t at *
  omega
def cntP (P n : Nat) : Nat := n / (2 * P) * P + (n % (2 * P) - P)
theorem cntP_succ (P n : Nat) (h : 0 < P) : cntP P (n + 1) = cntP P n + n / P % 2 := by
  unfold cntP
  obtain ⟨q, r, e, hr⟩ : ∃ q r, n = 2 * P * q + r ∧ r < 2 * P := ⟨n / (2 * P), n % (2 * P), (Nat.div_add_mod n (2 * P)).symm, Nat.mod_lt _ (by omega)⟩
  have d1 : n / (2 * P) = q := by
    rw [e, Nat.mul_add_div (by omega), Nat.div_eq_of_lt hr, Nat.add_zero]
  have m1 : n % (2 * P) = r := by
    rw [e, Nat.mul_add_mod, Nat.mod_eq_of_lt hr]
  have b1 : n / P % 2 = if r < P then 0 else 1 := by
    rw [e, show 2 * P * q + r = P * (2 * q) + r by rw [Nat.mul_comm 2 P, Nat.mul_assoc], Nat.mul_add_div h]
    split
    · next c => rw [Nat.div_eq_of_lt c]; omega
    · next c =>
      have : r / P = 1 := by
        rw [Nat.div_eq_iff h]
        omega
      rw [this]
      omega
  rw [d1, m1, b1]
  by_cases c : r + 1 < 2 * P
  · have d2 : (n + 1) / (2 * P) = q := by
      rw [e, Nat.add_assoc, Nat.mul_add_div (by omega), Nat.div_eq_of_lt c, Nat.add_zero]
    have m2 : (n + 1) % (2 * P) = r + 1 := by
      rw [e, Nat.add_assoc, Nat.mul_add_mod, Nat.mod_eq_of_lt c]
    rw [d2, m2]
    split <;> omega
  · have e2 : n + 1 = 2 * P * (q + 1) := by
      rw [e, Nat.mul_add]
      omega
    have d2 : (n + 1) / (2 * P) = q + 1 := by
      rw [e2, Nat.mul_div_cancel_left _ (by omega)]
    have m2 : (n + 1) % (2 * P) = 0 := by
      rw [e2, Nat.mul_mod_right]
    rw [d2, m2, Nat.add_mul]
    split <;> omega
def Ts : Nat → Nat → Nat
  | 0, _ => 0
  | k + 1, n => Ts k n + cntP (2 ^ k) n * 3 ^ k
def Bk : Nat → Nat → Nat
  | 0, _ => 0
  | k + 1, n => Bk k n + n / 2 ^ k % 2 * 3 ^ k
theorem Ts_succ : ∀ k n : Nat, Ts k (n + 1) = Ts k n + Bk k n
  | 0, _ => rfl
  | k + 1, n => by
    rw [Ts, Ts, Bk, Ts_succ k n, cntP_succ _ _ (Nat.pow_pos (by decide)), Nat.add_mul]
    omega
theorem Bk_low : ∀ k n : Nat, Bk (k + 1) n = n % 2 + 3 * Bk k (n / 2)
  | 0, n => by
    show 0 + n / 1 % 2 * 1 = n % 2 + 3 * 0
    rw [Nat.div_one]
    omega
  | k + 1, n => by
    rw [Bk, Bk_low k n, Bk]
    have e : n / 2 ^ (k + 1) = n / 2 / 2 ^ k := by
      rw [Nat.div_div_eq_div_mul, Nat.pow_succ, Nat.mul_comm 2]
    rw [e, Nat.mul_add, Nat.pow_succ, ← Nat.mul_assoc, Nat.mul_comm _ 3]
    omega
theorem Bk_eq : ∀ k n : Nat, n < 2 ^ k → Bk k n = Bm n
  | 0, n, h => by
    have : n = 0 := by omega
    subst this
    rw [Bm_zero]
    rfl
  | k + 1, n, h => by
    rw [Bk_low, Bk_eq k (n / 2) (by rw [Nat.pow_succ] at h; omega), Bm_rec n]
    omega
def SB : Nat → Nat
  | 0 => 0
  | n + 1 => SB n + Bm n
theorem Ts_zero : ∀ k : Nat, Ts k 0 = 0
  | 0 => rfl
  | k + 1 => by
    rw [Ts, Ts_zero k]
    unfold cntP
    simp
theorem Ts_eq (k : Nat) : ∀ n : Nat, n ≤ 2 ^ k → Ts k n = SB n
  | 0, _ => Ts_zero k
  | n + 1, h => by
    rw [Ts_succ, Ts_eq k n (by omega), Bk_eq k n (by omega)]
    rfl
theorem log_lt {n k : Nat} (hk : 0 < k) (h : n < 2 ^ k) : (n : Int).natAbs.log2 < k := by
  show n.log2 < k
  by_cases z : n = 0
  · rw [z]
    exact hk
  · exact (Nat.log2_lt z).mpr h
theorem mulN {a b : Nat} (ha : a < 2 ^ 4000) (hb : b < 2 ^ 4000) : mulI (.int a) (.int b) = ok (.int (a * b : Nat)) := by
  have l : ∀ {n : Nat}, n < 2 ^ 4000 → (n : Int).natAbs.log2 < 4000 := fun {n} h => log_lt (Nat.succ_pos _) h
  have h1 := l ha
  have h2 := l hb
  have h3 : (a : Int).natAbs.log2 + (b : Int).natAbs.log2 < 1000000 := Nat.lt_of_lt_of_le (Nat.add_lt_add h1 h2) (by decide)
  have e : ((a * b : Nat) : Int) = (a : Int) * b := by simp
  rw [e]
  generalize (a : Int) = x at *
  generalize (b : Int) = y at *
  exact if_pos (.inr (.inr h3))
theorem p4000 {n k : Nat} (h : n ≤ 2 ^ k) (hk : k < 4000) : n < 2 ^ 4000 := Nat.lt_of_le_of_lt h (Nat.pow_lt_pow_right (by decide) hk)
theorem pow3_le (k : Nat) : 3 ^ k ≤ 2 ^ (2 * k) := by
  rw [Nat.pow_mul]
  exact Nat.pow_le_pow_left (by decide) k
theorem cntP_le (P n : Nat) (h : 0 < P) : cntP P n ≤ n := by
  unfold cntP
  have h1 := Nat.div_add_mod n (2 * P)
  have e : 2 * P * (n / (2 * P)) = 2 * (n / (2 * P) * P) := by
    rw [Nat.mul_assoc, Nat.mul_comm P]
  rw [e] at h1
  generalize n / (2 * P) * P = t at *
  generalize n % (2 * P) = u at *
  omega
theorem Ts_stable {k n : Nat} (h : n < 2 ^ k) : ∀ j : Nat, Ts (k + j) n = Ts k n
  | 0 => rfl
  | j + 1 => by
    rw [← Nat.add_assoc, Ts, Ts_stable h j]
    have h2 : n < 2 ^ (k + j) := Nat.lt_of_lt_of_le h (Nat.pow_le_pow_right (by decide) (by omega))
    have : cntP (2 ^ (k + j)) n = 0 := by
      unfold cntP
      rw [Nat.div_eq_of_lt (by omega), Nat.mod_eq_of_lt (by omega)]
      omega
    rw [this]
    omega
abbrev sumBody : S → M Out := sSeq (sAsg (dCall divmodN (aCons (dVar 0) (aCons (dBin mulI (dC (.int 2)) (dVar 2)) aNil))) (gTp (gsCons (gNm 4) (gsCons (gNm 5) gsNil))))
    (sSeq (sSet 1 (dBin addI (dVar 1) (dBin mulI (dBin addI (dBin mulI (dVar 4) (dVar 2)) (dCall max2N (aCons (dC (.int 0)) (aCons (dBin subI (dVar 5) (dVar 2)) aNil)))) (dVar 3))))
    (sPar 2 3 (aCons (dBin mulI (dC (.int 2)) (dVar 2)) (aCons (dBin mulI (dC (.int 3)) (dVar 3)) aNil))))
theorem sum_go (n f k : Nat) (hn : n < 2 ^ 300) (hk : k < 300) (x y : Sl) : ∃ x' y', sumBody [.val (.int n), .val (.int f), .val (.int (2 ^ k : Nat)), .val (.int (3 ^ k : Nat)), x, y] =
    ok (.nx [.val (.int n), .val (.int (f + cntP (2 ^ k) n * 3 ^ k : Nat)), .val (.int (2 ^ (k + 1) : Nat)), .val (.int (3 ^ (k + 1) : Nat)), x', y']) := by
  have e2 : ((2 ^ (k + 1) : Nat) : Int) = 2 * ((2 ^ k : Nat) : Int) := by
    rw [Nat.pow_succ]
    omega
  have e3 : ((3 ^ (k + 1) : Nat) : Int) = 3 * ((3 ^ k : Nat) : Int) := by
    rw [Nat.pow_succ]
    omega
  have m2 := fun i : Int => v_mulL (j := i) (show -(2 ^ 64) < (2 : Int) by decide) (show (2 : Int) < 2 ^ 64 by decide)
  have m3 := fun i : Int => v_mulL (j := i) (show -(2 ^ 64) < (3 : Int) by decide) (show (3 : Int) < 2 ^ 64 by decide)
  have pp : 0 < 2 ^ k := Nat.pow_pos (by decide)
  have hp : 2 ^ k ≤ 2 ^ 300 := Nat.pow_le_pow_right (by decide) (by omega)
  have hd : divOk (2 * ((2 ^ k : Nat) : Int)) := by
    have := dvSmall (n := 2 * 2 ^ k) (by omega) (Nat.lt_of_le_of_lt (Nat.mul_le_mul_left 2 hp) (by decide))
    rwa [show ((2 * 2 ^ k : Nat) : Int) = 2 * ((2 ^ k : Nat) : Int) by omega] at this
  have q1 : (n : Int) / (2 * ((2 ^ k : Nat) : Int)) = ((n / (2 * 2 ^ k) : Nat) : Int) := by simp
  have q2 : (n : Int) % (2 * ((2 ^ k : Nat) : Int)) = ((n % (2 * 2 ^ k) : Nat) : Int) := by simp
  have le1 : n / (2 * 2 ^ k) ≤ n := Nat.div_le_self _ _
  have w1 := mulN (a := n / (2 * 2 ^ k)) (b := 2 ^ k) (p4000 (k := 300) (by omega) (by decide)) (p4000 (k := 300) hp (by decide))
  have mx : (if ((n % (2 * 2 ^ k) : Nat) : Int) - ((2 ^ k : Nat) : Int) > 0 then ((n % (2 * 2 ^ k) : Nat) : Int) - ((2 ^ k : Nat) : Int) else 0) = ((n % (2 * 2 ^ k) - 2 ^ k : Nat) : Int) := by
    split <;> omega
  have s1 : ((n / (2 * 2 ^ k) * 2 ^ k : Nat) : Int) + ((n % (2 * 2 ^ k) - 2 ^ k : Nat) : Int) = ((cntP (2 ^ k) n : Nat) : Int) := rfl
  have c3 := pow3_le k
  have hc := cntP_le (2 ^ k) n pp
  have w2 := mulN (a := cntP (2 ^ k) n) (b := 3 ^ k) (p4000 (k := 300) (by omega) (by decide)) (p4000 (k := 2 * k) c3 (by omega))
  have s2 : ((f + cntP (2 ^ k) n * 3 ^ k : Nat) : Int) = (f : Int) + ((cntP (2 ^ k) n * 3 ^ k : Nat) : Int) := by omega
  refine ⟨.val (.int (n / (2 * 2 ^ k) : Nat)), .val (.int (n % (2 * 2 ^ k) : Nat)), ?_⟩
  rw [e2, e3, s2]
  simp only [sumBody, runP, runF, runI, sSeq, sSet, sRet, sRetF, sRetN, sIf, sAsg, sPar, sPar3, sExpr, sNil, sNever, sPub, sOwn, sApp, sPut, dBin, dVar, dC, dTst, dNot, dAnd, dOr, vAnd, vOr, vNot, dIf, dTup, dLst, aNil, aCons, dCall, dCallU, dCallK, dCallI, dIsi, dOwnIx, gNm, gTp, gsNil, gsCons, iR1, iEn, iLst, dListZip, dRep, ownL, ownD, putL, putD, pubS, bd_ok', v_add, v_sub, v_lt, v_le, v_gt, v_ge, v_is0, v_is1, v_eqI, v_neI, v_isII, v_isBI, List.map_cons, List.map_nil, List.cons_append, List.nil_append, List.append_nil, List.length_cons, List.length_nil, List.replicate, List.getElem?_cons_zero, List.getElem?_cons_succ, List.set_cons_zero, List.set_cons_succ, if_true, if_false, Nat.reduceAdd, Nat.reduceSub, Nat.reduceEqDiff, Bool.false_eq_true, Bool.not_true, Bool.not_false, decide_true, decide_false, and_self, v_ninAl, dNeg, dFld, fldD, dProp, dMake, sFldPut, setF, dDic0, dChain, sForO, iRA, divmodN, max2N, hd, q1, q2, m2, m3, w1, mx, s1, w2]
theorem sum_loop (n : Nat) (hn : n < 2 ^ 300) : ∀ (m k : Nat) (x y : Sl), k + m = 300 → ∃ a b c d, sWhile (dTst (dBin leI (dVar 2) (dVar 0))) sumBody [.val (.int n), .val (.int (Ts k n)), .val (.int (2 ^ k : Nat)), .val (.int (3 ^ k : Nat)), x, y] = ok (.nx [.val (.int n), .val (.int (SB n)), a, b, c, d])
  | m, k, x, y, hk => by
    by_cases z : 2 ^ k ≤ n
    · cases m with
      | zero =>
        have : k = 300 := by omega
        subst this
        exact absurd z (by omega)
      | succ m =>
        obtain ⟨x', y', g⟩ := sum_go n (Ts k n) k hn (by omega) x y
        obtain ⟨a, b, c, d, e⟩ := sum_loop n hn m (k + 1) x' y' (by omega)
        have zi : ((2 ^ k : Nat) : Int) ≤ n := by omega
        exact ⟨a, b, c, d, while_go (by simp only [runP, runF, runI, sSeq, sSet, sRet, sRetF, sRetN, sIf, sAsg, sPar, sPar3, sExpr, sNil, sNever, sPub, sOwn, sApp, sPut, dBin, dVar, dC, dTst, dNot, dAnd, dOr, vAnd, vOr, vNot, dIf, dTup, dLst, aNil, aCons, dCall, dCallU, dCallK, dCallI, dIsi, dOwnIx, gNm, gTp, gsNil, gsCons, iR1, iEn, iLst, dListZip, dRep, ownL, ownD, putL, putD, pubS, bd_ok', v_add, v_sub, v_lt, v_le, v_gt, v_ge, v_is0, v_is1, v_eqI, v_neI, v_isII, v_isBI, List.map_cons, List.map_nil, List.cons_append, List.nil_append, List.append_nil, List.length_cons, List.length_nil, List.replicate, List.getElem?_cons_zero, List.getElem?_cons_succ, List.set_cons_zero, List.set_cons_succ, if_true, if_false, Nat.reduceAdd, Nat.reduceSub, Nat.reduceEqDiff, Bool.false_eq_true, Bool.not_true, Bool.not_false, decide_true, decide_false, and_self, v_ninAl, dNeg, dFld, fldD, dProp, dMake, sFldPut, setF, dDic0, dChain, sForO, iRA, zi]) g e⟩
    · have zi : ¬ ((2 ^ k : Nat) : Int) ≤ n := by omega
      have e : Ts k n = SB n := Ts_eq k n (by omega)
      rw [e]
      exact ⟨_, _, _, _, while_stop (by simp only [runP, runF, runI, sSeq, sSet, sRet, sRetF, sRetN, sIf, sAsg, sPar, sPar3, sExpr, sNil, sNever, sPub, sOwn, sApp, sPut, dBin, dVar, dC, dTst, dNot, dAnd, dOr, vAnd, vOr, vNot, dIf, dTup, dLst, aNil, aCons, dCall, dCallU, dCallK, dCallI, dIsi, dOwnIx, gNm, gTp, gsNil, gsCons, iR1, iEn, iLst, dListZip, dRep, ownL, ownD, putL, putD, pubS, bd_ok', v_add, v_sub, v_lt, v_le, v_gt, v_ge, v_is0, v_is1, v_eqI, v_neI, v_isII, v_isBI, List.map_cons, List.map_nil, List.cons_append, List.nil_append, List.append_nil, List.length_cons, List.length_nil, List.replicate, List.getElem?_cons_zero, List.getElem?_cons_succ, List.set_cons_zero, List.set_cons_succ, if_true, if_false, Nat.reduceAdd, Nat.reduceSub, Nat.reduceEqDiff, Bool.false_eq_true, Bool.not_true, Bool.not_false, decide_true, decide_false, and_self, v_ninAl, dNeg, dFld, fldD, dProp, dMake, sFldPut, setF, dDic0, dChain, sForO, iRA, zi])⟩
theorem e_sum (n : Nat) (hn : n < 2 ^ 300) : f_base_sum [.int n] = ok (.int (SB n)) := by
  have e1 := e_check n (by omega)
  obtain ⟨a, b, c, d, e⟩ := sum_loop n hn 300 0 .un .un (by omega)
  have e : sWhile _ _ [.val (.int n), .val (.int 0), .val (.int 1), .val (.int 1), .un, .un] = _ := e
  have h3 : 0 + 1 + 1 + 1 ≤ sizeLine := by
    show 3 ≤ 2 ^ 24
    decide
  simp only [f_base_sum, b_base_sum, runP, runF, runI, sSeq, sSet, sRet, sRetF, sRetN, sIf, sAsg, sPar, sPar3, sExpr, sNil, sNever, sPub, sOwn, sApp, sPut, dBin, dVar, dC, dTst, dNot, dAnd, dOr, vAnd, vOr, vNot, dIf, dTup, dLst, aNil, aCons, dCall, dCallU, dCallK, dCallI, dIsi, dOwnIx, gNm, gTp, gsNil, gsCons, iR1, iEn, iLst, dListZip, dRep, ownL, ownD, putL, putD, pubS, bd_ok', v_add, v_sub, v_lt, v_le, v_gt, v_ge, v_is0, v_is1, v_eqI, v_neI, v_isII, v_isBI, List.map_cons, List.map_nil, List.cons_append, List.nil_append, List.append_nil, List.length_cons, List.length_nil, List.replicate, List.getElem?_cons_zero, List.getElem?_cons_succ, List.set_cons_zero, List.set_cons_succ, if_true, if_false, Nat.reduceAdd, Nat.reduceSub, Nat.reduceEqDiff, Bool.false_eq_true, Bool.not_true, Bool.not_false, decide_true, decide_false, and_self, v_ninAl, dNeg, dFld, fldD, dProp, dMake, sFldPut, setF, dDic0, dChain, sForO, iRA, e1, e, h3]
theorem SB_sum : ∀ k : Nat, ((List.range k).map Bm).sum = SB k
  | 0 => rfl
  | k + 1 => by
    rw [List.range_succ, List.map_append, List.sum_append, SB_sum k]
    show SB k + (Bm k + 0) = SB k + Bm k
    omega
theorem sum_cast : ∀ ns : List Nat, (ns.map fun (k : Nat) => (k : Int)).sum = ((ns.sum : Nat) : Int)
  | [] => rfl
  | n :: ns => by
    rw [List.map_cons, List.sum_cons, sum_cast ns, List.sum_cons]
    omega
theorem rangeD_iN (n : Nat) : rangeD 0 n = iN (List.range n) := by
  unfold rangeD iN iD
  rw [List.map_map]
  congr 1
  funext k
  simp
theorem comp_all (v : Nat) (fe : S → M (D × S)) (h : Nat → Nat) (s0 : S) (hs : ∀ x, (s0.set v x).set v .un = s0) : ∀ ns : List Nat, (∀ k ∈ ns, fe (s0.set v (.val (.int k))) = ok (.int (h k), s0.set v (.val (.int k)))) → compL [v] (gNm v) tTrue fe (iN ns) s0 = ok (iN (ns.map h), s0)
  | [], _ => rfl
  | n :: ns, hf => by
    have ih := comp_all v fe h s0 hs ns fun k hk => hf k (List.mem_cons_of_mem _ hk)
    have e := hf n (List.mem_cons_self ..)
    show bd (ok (s0.set v (.val (.int n)))) _ = _
    rw [bd_ok']
    show bd (fe (s0.set v (.val (.int n)))) _ = _
    rw [e, bd_ok']
    show bd (compL [v] (gNm v) tTrue fe (iN ns) ((s0.set v (.val (.int n))).set v .un)) _ = _
    rw [hs, ih]
    rfl
theorem Bm_lt3 : ∀ k n : Nat, n < 2 ^ k → Bm n < 3 ^ k
  | 0, n, h => by
    have : n = 0 := by omega
    subst this
    rw [Bm_zero]
    decide
  | k + 1, n, h => by
    rw [Nat.pow_succ] at h ⊢
    have := Bm_lt3 k (n / 2) (by omega)
    rw [Bm_rec]
    omega
theorem dg_mem (r : Nat) (hr : 2 ≤ r) (n : Nat) : ∀ d ∈ dg r n, d < r := by
  induction n using Nat.strongRecOn with | _ n ih =>
    intro d hd
    by_cases z : n = 0
    · rw [z, dg_zero] at hd
      cases hd
    · rw [dg_pos hr (by omega), List.mem_cons] at hd
      rcases hd with h | h
      · rw [h]
        exact Nat.mod_lt _ (by omega)
      · exact ih (n / r) (Nat.div_lt_self (by omega) (by omega)) d h
theorem dg_Bm (n : Nat) : dg 3 (Bm n) = dg 2 n := by
  induction n using Nat.strongRecOn with | _ n ih =>
    by_cases z : n = 0
    · rw [z, Bm_zero, dg_zero, dg_zero]
    · have pos : 0 < Bm n := by
        have := Bm_gap n (by omega)
        have o := odd3 (v2 n)
        unfold due at this
        generalize 3 ^ v2 n = t at *
        omega
      have r := Bm_rec n
      rw [dg_pos (n := Bm n) (by decide) pos, dg_pos (n := n) (by decide) (by omega)]
      have e1 : Bm n % 3 = n % 2 := by omega
      have e2 : Bm n / 3 = Bm (n / 2) := by omega
      rw [e1, e2, ih (n / 2) (by omega)]
theorem vr2_dg (n : Nat) : vr 2 (dg 2 n) = n := by
  induction n using Nat.strongRecOn with | _ n ih =>
    by_cases z : n = 0
    · rw [z, dg_zero]
      rfl
    · rw [dg_pos (by decide) (by omega)]
      show vr 2 (dg 2 (n / 2)) * 2 + n % 2 = n
      rw [ih (n / 2) (by omega)]
      omega
theorem no2 (n : Nat) : ¬ (2 : Int) ∈ (dg 3 (Bm n)).reverse.map fun (j : Nat) => (j : Int) := by
  intro z
  have h := (mem_iN (k := 2)).mp z
  rw [List.mem_reverse, dg_Bm] at h
  exact absurd (dg_mem 2 (by decide) n 2 h) (by decide)
theorem e_plain (n : Nat) (h : Bm n < 3 ^ 300) : f_is_plain_number [.int (Bm n)] = ok (.bl true) := by
  have e1 := e_is_int0 (Bm n) (by omega)
  have e2 : f_digits_in [.int (Bm n), .int 3] = _ := e_digits_in (r := 3) (by decide) (by decide) (Bm n) h
  have e4 := v_ninL 2 ((dg 3 (Bm n)).reverse.map fun (j : Nat) => (j : Int))
  simp only [f_is_plain_number, b_is_plain_number, f_are_plain, b_are_plain, runP, runF, runI, sSeq, sSet, sRet, sRetF, sRetN, sIf, sAsg, sPar, sPar3, sExpr, sNil, sNever, sPub, sOwn, sApp, sPut, dBin, dVar, dC, dTst, dNot, dAnd, dOr, vAnd, vOr, vNot, dIf, dTup, dLst, aNil, aCons, dCall, dCallU, dCallK, dCallI, dIsi, dOwnIx, gNm, gTp, gsNil, gsCons, iR1, iEn, iLst, dListZip, dRep, ownL, ownD, putL, putD, pubS, bd_ok', v_add, v_sub, v_lt, v_le, v_gt, v_ge, v_is0, v_is1, v_eqI, v_neI, v_isII, v_isBI, List.map_cons, List.map_nil, List.cons_append, List.nil_append, List.append_nil, List.length_cons, List.length_nil, List.replicate, List.getElem?_cons_zero, List.getElem?_cons_succ, List.set_cons_zero, List.set_cons_succ, if_true, if_false, Nat.reduceAdd, Nat.reduceSub, Nat.reduceEqDiff, Bool.false_eq_true, Bool.not_true, Bool.not_false, decide_true, decide_false, and_self, v_ninAl, dNeg, dFld, fldD, dProp, dMake, sFldPut, setF, dDic0, dChain, sForO, iRA, e1, e2, e4, no2 n]
theorem e_isP (p : Nat) (h : p ≤ 2000) : f_is_integer [.int p, .int 0, .int 2000] = ok (.bl true) := by
  have h0 : (0 : Int) ≤ p := by omega
  have h1 : (p : Int) ≤ 2000 := by omega
  simp only [f_is_integer, b_is_integer, runP, runF, runI, sSeq, sSet, sRet, sRetF, sRetN, sIf, sAsg, sPar, sPar3, sExpr, sNil, sNever, sPub, sOwn, sApp, sPut, dBin, dVar, dC, dTst, dNot, dAnd, dOr, vAnd, vOr, vNot, dIf, dTup, dLst, aNil, aCons, dCall, dCallU, dCallK, dCallI, dIsi, dOwnIx, gNm, gTp, gsNil, gsCons, iR1, iEn, iLst, dListZip, dRep, ownL, ownD, putL, putD, pubS, bd_ok', v_add, v_sub, v_lt, v_le, v_gt, v_ge, v_is0, v_is1, v_eqI, v_neI, v_isII, v_isBI, List.map_cons, List.map_nil, List.cons_append, List.nil_append, List.append_nil, List.length_cons, List.length_nil, List.replicate, List.getElem?_cons_zero, List.getElem?_cons_succ, List.set_cons_zero, List.set_cons_succ, if_true, if_false, Nat.reduceAdd, Nat.reduceSub, Nat.reduceEqDiff, Bool.false_eq_true, Bool.not_true, Bool.not_false, decide_true, decide_false, and_self, v_ninAl, dNeg, dFld, fldD, dProp, dMake, sFldPut, setF, dDic0, dChain, sForO, iRA, h0, h1, v_is1]
theorem e_checkP (p : Nat) (h : p ≤ 2000) : f_check_number [.int p, .int 0, .int 2000] = ok .non := by
  simp only [f_check_number, b_check_number, runP, runF, runI, sSeq, sSet, sRet, sRetF, sRetN, sIf, sAsg, sPar, sPar3, sExpr, sNil, sNever, sPub, sOwn, sApp, sPut, dBin, dVar, dC, dTst, dNot, dAnd, dOr, vAnd, vOr, vNot, dIf, dTup, dLst, aNil, aCons, dCall, dCallU, dCallK, dCallI, dIsi, dOwnIx, gNm, gTp, gsNil, gsCons, iR1, iEn, iLst, dListZip, dRep, ownL, ownD, putL, putD, pubS, bd_ok', v_add, v_sub, v_lt, v_le, v_gt, v_ge, v_is0, v_is1, v_eqI, v_neI, v_isII, v_isBI, List.map_cons, List.map_nil, List.cons_append, List.nil_append, List.append_nil, List.length_cons, List.length_nil, List.replicate, List.getElem?_cons_zero, List.getElem?_cons_succ, List.set_cons_zero, List.set_cons_succ, if_true, if_false, Nat.reduceAdd, Nat.reduceSub, Nat.reduceEqDiff, Bool.false_eq_true, Bool.not_true, Bool.not_false, decide_true, decide_false, and_self, v_ninAl, dNeg, dFld, fldD, dProp, dMake, sFldPut, setF, dDic0, dChain, sForO, iRA, e_isP p h]
theorem e_power3 (k : Nat) (hk : k ≤ 2000) : f_power_of [.int 3, .int k] = ok (.int (3 ^ k : Nat)) := by
  have hr : rngOk (k : Int) := ⟨by omega, by omega⟩
  have len : (rangeD 0 (k : Int).toNat).length = k := rangeD_len _ _
  have m3 := fun i : Int => v_mulR (i := i) (show -(2 ^ 64) < (3 : Int) by decide) (show (3 : Int) < 2 ^ 64 by decide)
  obtain ⟨s', eL, x, es⟩ := forL_inv (T := gNm 3) (F := sSet 2 (dBin mulI (dVar 2) (dVar 0))) (fun i s => ∃ x : Sl, s = [.val (.int 3), .val (.int k), .val (.int ((3 ^ i : Nat) : Int)), x]) (rangeD 0 (k : Int).toNat) 0 [.val (.int 3), .val (.int k), .val (.int 1), .un] ⟨.un, rfl⟩ (by
    rintro i d s hi ⟨x, rfl⟩
    rw [Nat.zero_add]
    refine ⟨[.val (.int 3), .val (.int k), .val (.int ((3 ^ i : Nat) : Int)), .val d], _, rfl, ?_, .val d, rfl⟩
    have e3 : ((3 ^ (i + 1) : Nat) : Int) = ((3 ^ i : Nat) : Int) * 3 := by
      rw [Nat.pow_succ]
      omega
    simp only [runP, runF, runI, sSeq, sSet, sRet, sRetF, sRetN, sIf, sAsg, sPar, sPar3, sExpr, sNil, sNever, sPub, sOwn, sApp, sPut, dBin, dVar, dC, dTst, dNot, dAnd, dOr, vAnd, vOr, vNot, dIf, dTup, dLst, aNil, aCons, dCall, dCallU, dCallK, dCallI, dIsi, dOwnIx, gNm, gTp, gsNil, gsCons, iR1, iEn, iLst, dListZip, dRep, ownL, ownD, putL, putD, pubS, bd_ok', v_add, v_sub, v_lt, v_le, v_gt, v_ge, v_is0, v_is1, v_eqI, v_neI, v_isII, v_isBI, List.map_cons, List.map_nil, List.cons_append, List.nil_append, List.append_nil, List.length_cons, List.length_nil, List.replicate, List.getElem?_cons_zero, List.getElem?_cons_succ, List.set_cons_zero, List.set_cons_succ, if_true, if_false, Nat.reduceAdd, Nat.reduceSub, Nat.reduceEqDiff, Bool.false_eq_true, Bool.not_true, Bool.not_false, decide_true, decide_false, and_self, v_ninAl, dNeg, dFld, fldD, dProp, dMake, sFldPut, setF, dDic0, dChain, sForO, iRA, m3, e3])
  rw [len, Nat.zero_add] at es
  subst es
  simp only [f_power_of, b_power_of, sFor, runP, runF, runI, sSeq, sSet, sRet, sRetF, sRetN, sIf, sAsg, sPar, sPar3, sExpr, sNil, sNever, sPub, sOwn, sApp, sPut, dBin, dVar, dC, dTst, dNot, dAnd, dOr, vAnd, vOr, vNot, dIf, dTup, dLst, aNil, aCons, dCall, dCallU, dCallK, dCallI, dIsi, dOwnIx, gNm, gTp, gsNil, gsCons, iR1, iEn, iLst, dListZip, dRep, ownL, ownD, putL, putD, pubS, bd_ok', v_add, v_sub, v_lt, v_le, v_gt, v_ge, v_is0, v_is1, v_eqI, v_neI, v_isII, v_isBI, List.map_cons, List.map_nil, List.cons_append, List.nil_append, List.append_nil, List.length_cons, List.length_nil, List.replicate, List.getElem?_cons_zero, List.getElem?_cons_succ, List.set_cons_zero, List.set_cons_succ, if_true, if_false, Nat.reduceAdd, Nat.reduceSub, Nat.reduceEqDiff, Bool.false_eq_true, Bool.not_true, Bool.not_false, decide_true, decide_false, and_self, v_ninAl, dNeg, dFld, fldD, dProp, dMake, sFldPut, setF, dDic0, dChain, sForO, iRA, hr, eL]
theorem e_mirror (n p : Nat) (hp : p ≤ 2000) (h : Bm n < 3 ^ 300) (hle : Bm n ≤ (3 ^ p - 1) / 2) : f_mirror [.int (Bm n), .int p] = ok (.int ((3 ^ p - 1) / 2 - Bm n : Nat)) := by
  have e1 := e_checkP p hp
  have e2 := e_power3 p hp
  have e3 := e_plain n h
  have p3 : 0 < 3 ^ p := Nat.pow_pos (by decide)
  have g1 : ((3 ^ p : Nat) : Int) - 1 = ((3 ^ p - 1 : Nat) : Int) := by omega
  have g2 : ((3 ^ p - 1 : Nat) : Int) / 2 = (((3 ^ p - 1) / 2 : Nat) : Int) := rfl
  have g3 : ¬ (((3 ^ p - 1) / 2 : Nat) : Int) < (Bm n : Int) := by omega
  have g4 : (((3 ^ p - 1) / 2 : Nat) : Int) - (Bm n : Int) = (((3 ^ p - 1) / 2 - Bm n : Nat) : Int) := by omega
  simp only [f_mirror, b_mirror, runP, runF, runI, sSeq, sSet, sRet, sRetF, sRetN, sIf, sAsg, sPar, sPar3, sExpr, sNil, sNever, sPub, sOwn, sApp, sPut, dBin, dVar, dC, dTst, dNot, dAnd, dOr, vAnd, vOr, vNot, dIf, dTup, dLst, aNil, aCons, dCall, dCallU, dCallK, dCallI, dIsi, dOwnIx, gNm, gTp, gsNil, gsCons, iR1, iEn, iLst, dListZip, dRep, ownL, ownD, putL, putD, pubS, bd_ok', v_add, v_sub, v_lt, v_le, v_gt, v_ge, v_is0, v_is1, v_eqI, v_neI, v_isII, v_isBI, List.map_cons, List.map_nil, List.cons_append, List.nil_append, List.append_nil, List.length_cons, List.length_nil, List.replicate, List.getElem?_cons_zero, List.getElem?_cons_succ, List.set_cons_zero, List.set_cons_succ, if_true, if_false, Nat.reduceAdd, Nat.reduceSub, Nat.reduceEqDiff, Bool.false_eq_true, Bool.not_true, Bool.not_false, decide_true, decide_false, and_self, v_ninAl, dNeg, dFld, fldD, dProp, dMake, sFldPut, setF, dDic0, dChain, sForO, iRA, e1, e2, e3, g1, g2, g3, g4, v_div dv2]
theorem Bm_comp : ∀ t n : Nat, n < 2 ^ t → 2 * (Bm (2 ^ t - 1 - n) + Bm n) + 1 = 3 ^ t
  | 0, n, h => by
    have : n = 0 := by omega
    subst this
    show 2 * (Bm 0 + Bm 0) + 1 = 1
    rw [Bm_zero]
  | t + 1, n, h => by
    rw [Nat.pow_succ] at h
    have ih := Bm_comp t (n / 2) (by omega)
    rw [Bm_rec (2 ^ (t + 1) - 1 - n), Bm_rec n]
    have e1 : (2 ^ (t + 1) - 1 - n) / 2 = 2 ^ t - 1 - n / 2 := by
      rw [Nat.pow_succ]
      omega
    have e2 : (2 ^ (t + 1) - 1 - n) % 2 + n % 2 = 1 := by
      rw [Nat.pow_succ]
      omega
    rw [e1, Nat.pow_succ]
    omega
theorem cut_iD (ns : List Int) (lo hi : Option Int) : ∃ ms : List Int, cutD (iD ns) lo hi = iD ms ∧ ms.length ≤ ns.length := by
  refine ⟨(ns.drop (HT.sIx ns.length 0 lo)).take (HT.sIx ns.length ns.length hi - HT.sIx ns.length 0 lo), ?_, ?_⟩
  · unfold cutD iD
    rw [List.length_map, List.map_take, List.map_drop]
  · rw [List.length_take, List.length_drop]
    omega
theorem enum_at : ∀ (ds : List D) (k i : Nat) (d : D), (enumD k ds)[i]? = some d → ∃ e, ds[i]? = some e ∧ d = .tup [.int ((k + i : Nat) : Int), e]
  | [], k, i, d, h => by simp [enumD] at h
  | e :: es, k, 0, d, h => by
    cases h
    exact ⟨e, rfl, rfl⟩
  | e :: es, k, i + 1, d, h => by
    obtain ⟨e', h1, h2⟩ := enum_at es (k + 1) i d (by simpa [enumD] using h)
    exact ⟨e', by simpa using h1, by rw [h2, show k + 1 + i = k + (i + 1) by omega]⟩
theorem enum_len : ∀ (ds : List D) (k : Nat), (enumD k ds).length = ds.length
  | [], _ => rfl
  | _ :: ds, k => by
    rw [enumD, List.length_cons, enum_len ds (k + 1)]
    rfl
theorem cut_iN (ns : List Nat) (k : Nat) : cutD (iN ns) none (some (k : Int)) = iN (ns.take k) := by
  unfold cutD
  rw [HT.sIx_none, HT.sIx_nat]
  rw [List.length_map, List.length_map, List.drop_zero, Nat.sub_zero, ← List.map_take, ← List.map_take]
  congr 2
  rw [← List.take_eq_take_min]
def bt (n i : Nat) : Nat := (n.testBit i).toNat
theorem bt_zero (n : Nat) : bt n 0 = n % 2 := by
  unfold bt
  rw [Nat.testBit_zero]
  rcases Nat.mod_two_eq_zero_or_one n with h | h <;> rw [h] <;> rfl
theorem bt_succ (n i : Nat) : bt n (i + 1) = bt (n / 2) i := by
  unfold bt
  rw [Nat.testBit_succ]
/-- a digit of a row -/
theorem dg_get (n : Nat) : ∀ i : Nat, (dg 2 n)[i]? = if i < (dg 2 n).length then some (bt n i) else none := by
  induction n using Nat.strongRecOn with | _ n ih =>
    intro i
    by_cases z : n = 0
    · subst z
      rw [dg_zero]
      rfl
    · rw [dg_pos (by decide) (by omega), List.length_cons]
      cases i with
      | zero => rw [List.getElem?_cons_zero, bt_zero, if_pos (Nat.zero_lt_succ _)]
      | succ i =>
        rw [List.getElem?_cons_succ, ih (n / 2) (by omega) i, bt_succ]
        by_cases c : i < (dg 2 (n / 2)).length
        · rw [if_pos c, if_pos (by omega)]
        · rw [if_neg c, if_neg (by omega)]
theorem dg_lt (n : Nat) : n < 2 ^ (dg 2 n).length := by
  induction n using Nat.strongRecOn with | _ n ih =>
    by_cases z : n = 0
    · subst z
      rw [dg_zero]
      decide
    · rw [dg_pos (by decide) (by omega), List.length_cons, Nat.pow_succ]
      have := ih (n / 2) (by omega)
      omega
theorem bt_big {n i : Nat} (h : n < 2 ^ i) : bt n i = 0 := by
  unfold bt
  rw [Nat.testBit_lt_two_pow h]
  rfl
theorem bt_out {n i : Nat} (h : ¬ i < (dg 2 n).length) : bt n i = 0 := by
  refine bt_big (Nat.lt_of_lt_of_le (dg_lt n) (Nat.pow_le_pow_right (by decide) (by omega)))
/-- the member by its bits -/
theorem vr_bits : ∀ (k n : Nat), n < 2 ^ k → vr 3 ((List.range k).map (bt n)) = Bm n
  | 0, n, h => by
    have : n = 0 := by simpa using h
    rw [this, Bm_zero]
    rfl
  | k + 1, n, h => by
    (rw [List.range_succ_eq_map, List.map_cons, List.map_map])
    have e : (bt n) ∘ Nat.succ = bt (n / 2) := by
      funext i
      exact bt_succ n i
    rw [e]
    show vr 3 ((List.range k).map (bt (n / 2))) * 3 + bt n 0 = _
    rw [vr_bits k (n / 2) (by rw [Nat.pow_succ] at h; omega), bt_zero, Bm_rec n]
    omega
def orL (ns : List Nat) : Nat := ns.foldr (· ||| ·) 0
def anL : List Nat → Nat
  | [] => 0
  | [n] => n
  | n :: ns => n &&& anL ns
theorem bt_or (a b i : Nat) : bt (a ||| b) i = max (bt a i) (bt b i) := by
  unfold bt
  rw [Nat.testBit_or]
  cases a.testBit i <;> cases b.testBit i <;> rfl
theorem bt_and (a b i : Nat) : bt (a &&& b) i = min (bt a i) (bt b i) := by
  unfold bt
  rw [Nat.testBit_and]
  cases a.testBit i <;> cases b.testBit i <;> rfl
theorem max_bits (i : Nat) : ∀ ns : List Nat, ns ≠ [] → maxL (ns.map fun n => (bt n i : Int)) = (bt (orL ns) i : Int)
  | [], h => absurd rfl h
  | [n], _ => by
    show (bt n i : Int) = (bt (n ||| 0) i : Int)
    rw [Nat.or_zero]
  | n :: m :: ns, _ => by
    have ih := max_bits i (m :: ns) (by simp)
    show max (bt n i : Int) (maxL ((m :: ns).map fun n => (bt n i : Int))) = (bt (n ||| orL (m :: ns)) i : Int)
    rw [ih, bt_or]
    omega
theorem min_bits (i : Nat) : ∀ ns : List Nat, ns ≠ [] → minL (ns.map fun n => (bt n i : Int)) = (bt (anL ns) i : Int)
  | [], h => absurd rfl h
  | [n], _ => rfl
  | n :: m :: ns, _ => by
    have ih := min_bits i (m :: ns) (by simp)
    show min (bt n i : Int) (minL ((m :: ns).map fun n => (bt n i : Int))) = (bt (n &&& anL (m :: ns)) i : Int)
    rw [ih, bt_and]
    omega
theorem or_lt (k : Nat) : ∀ ns : List Nat, (∀ n ∈ ns, n < 2 ^ k) → orL ns < 2 ^ k
  | [], _ => Nat.pow_pos (by decide)
  | n :: ns, h => Nat.or_lt_two_pow (h n (List.mem_cons_self ..)) (or_lt k ns fun m hm => h m (List.mem_cons_of_mem _ hm))
theorem an_lt (k : Nat) : ∀ ns : List Nat, ns ≠ [] → (∀ n ∈ ns, n < 2 ^ k) → anL ns < 2 ^ k
  | [], h, _ => absurd rfl h
  | [n], _, h => h n (List.mem_cons_self ..)
  | n :: m :: ns, _, h => Nat.lt_of_le_of_lt Nat.and_le_left (h n (List.mem_cons_self ..))
theorem an_lt0 (k : Nat) (ns : List Nat) (h : ∀ n ∈ ns, n < 2 ^ k) : anL ns < 2 ^ k := by
  by_cases z : ns = []
  · rw [z]
    exact Nat.pow_pos (by decide)
  · exact an_lt k ns z h
theorem Bm_sum (a : Nat) : ∀ b : Nat, Bm (a ||| b) + Bm (a &&& b) = Bm a + Bm b := by
  induction a using Nat.strongRecOn with | _ a ih =>
    intro b
    by_cases z : a = 0
    · subst z
      rw [Nat.zero_or, Nat.zero_and, Bm_zero]
      omega
    · have i := ih (a / 2) (by omega) (b / 2)
      have e1 : (a ||| b) / 2 = a / 2 ||| b / 2 := Nat.or_div_two
      have e2 : (a &&& b) / 2 = a / 2 &&& b / 2 := Nat.and_div_two
      have t1 := bt_zero (a ||| b)
      have t2 := bt_zero (a &&& b)
      rw [bt_or, bt_zero, bt_zero] at t1
      rw [bt_and, bt_zero, bt_zero] at t2
      rw [Bm_rec (a ||| b), Bm_rec (a &&& b), Bm_rec a, Bm_rec b, e1, e2, ← t1, ← t2]
      omega
abbrev mD (ns : List Nat) : List D := ns.map fun n => D.int (Bm n : Nat)
abbrev rD (ns : List Nat) : List D := ns.map fun n => D.lst (iN (dg 2 n))
theorem b300 : (2 : Nat) ^ 250 ≤ 2 ^ 300 := Nat.pow_le_pow_right (by decide) (by decide)
theorem Bm_300 {n : Nat} (h : n < 2 ^ 250) : Bm n < 3 ^ 300 := Bm_lt3 300 n (Nat.lt_of_lt_of_le h b300)
theorem e_digits_Bm (n : Nat) (h : n < 2 ^ 250) : f_digits_in [.int (Bm n), .int 3] = ok (.lst (iN (dg 2 n).reverse)) := by
  have e : f_digits_in [.int (Bm n), .int 3] = _ := e_digits_in (r := 3) (by decide) (by decide) (Bm n) (Bm_300 h)
  rw [e, dg_Bm]
theorem maxN_of {ks : List Int} (h : ks ≠ []) : maxN [.lst (iD ks)] = ok (.int (maxL ks)) := by
  cases ks with
  | nil => exact absurd rfl h
  | cons k ks =>
    unfold maxN
    dsimp only
    rw [ints?_map]
theorem minN_of {ks : List Int} (h : ks ≠ []) : minN [.lst (iD ks)] = ok (.int (minL ks)) := by
  cases ks with
  | nil => exact absurd rfl h
  | cons k ks =>
    unfold minN
    dsimp only
    rw [ints?_map]
theorem rev_iN (ns : List Nat) : (iN ns.reverse).reverse = iN ns := by simp
theorem rows_p (ns : List Nat) (h : ∀ n ∈ ns, n < 2 ^ 250) (s0 : S) (hs : ∀ x, (s0.set 3 x).set 3 .un = s0) (hg : ∀ x, (s0.set 3 x)[3]? = some x) :
    compL [3] (gNm 3) tTrue (dRev (dCallU 2 f_digits_in [] (aCons (dVar 3) (aCons (dC (.int 3)) aNil)))) (mD ns) s0 = ok (rD ns, s0) :=
  comp_allF 3 _ (fun n => D.int (Bm n : Nat)) (fun n => D.lst (iN (dg 2 n))) s0 hs ns fun n hn => by
    have e := e_digits_Bm n (h n hn)
    have r := rev_iN (dg 2 n)
    simp only [dRev, runP, runF, runI, sSeq, sSet, sRet, sRetF, sRetN, sIf, sAsg, sPar, sPar3, sExpr, sNil, sNever, sPub, sOwn, sApp, sPut, dBin, dVar, dC, dTst, dNot, dAnd, dOr, vAnd, vOr, vNot, dIf, dTup, dLst, aNil, aCons, dCall, dCallU, dCallK, dCallI, dIsi, dOwnIx, gNm, gTp, gsNil, gsCons, iR1, iEn, iLst, dListZip, dRep, ownL, ownD, putL, putD, pubS, bd_ok', v_add, v_sub, v_lt, v_le, v_gt, v_ge, v_is0, v_is1, v_eqI, v_neI, v_isII, v_isBI, List.map_cons, List.map_nil, List.cons_append, List.nil_append, List.append_nil, List.length_cons, List.length_nil, List.replicate, List.getElem?_cons_zero, List.getElem?_cons_succ, List.set_cons_zero, List.set_cons_succ, if_true, if_false, Nat.reduceAdd, Nat.reduceSub, Nat.reduceEqDiff, Bool.false_eq_true, Bool.not_true, Bool.not_false, decide_true, decide_false, and_self, v_ninAl, dNeg, dFld, fldD, dProp, dMake, sFldPut, setF, dDic0, dChain, sForO, iRA, hg, e, r]
abbrev lD (ns : List Nat) : List Int := ns.map fun n => ((dg 2 n).length : Int)
theorem lens (v : Nat) (ns : List Nat) (s0 : S) (hs : ∀ x, (s0.set v x).set v .un = s0) (hg : ∀ x, (s0.set v x)[v]? = some x) :
    compL [v] (gNm v) tTrue (dCall lenN (aCons (dVar v) aNil)) (rD ns) s0 = ok (iD (lD ns), s0) := by
  have e := comp_allF v (dCall lenN (aCons (dVar v) aNil)) (fun n => D.lst (iN (dg 2 n))) (fun n => D.int ((dg 2 n).length : Int)) s0 hs ns fun n hn => by
    have e : lenN [.lst (iN (dg 2 n))] = ok (.int (dg 2 n).length) := by
      unfold lenN
      dsimp only
      rw [List.length_map, List.length_map]
    simp only [runP, runF, runI, sSeq, sSet, sRet, sRetF, sRetN, sIf, sAsg, sPar, sPar3, sExpr, sNil, sNever, sPub, sOwn, sApp, sPut, dBin, dVar, dC, dTst, dNot, dAnd, dOr, vAnd, vOr, vNot, dIf, dTup, dLst, aNil, aCons, dCall, dCallU, dCallK, dCallI, dIsi, dOwnIx, gNm, gTp, gsNil, gsCons, iR1, iEn, iLst, dListZip, dRep, ownL, ownD, putL, putD, pubS, bd_ok', v_add, v_sub, v_lt, v_le, v_gt, v_ge, v_is0, v_is1, v_eqI, v_neI, v_isII, v_isBI, List.map_cons, List.map_nil, List.cons_append, List.nil_append, List.append_nil, List.length_cons, List.length_nil, List.replicate, List.getElem?_cons_zero, List.getElem?_cons_succ, List.set_cons_zero, List.set_cons_succ, if_true, if_false, Nat.reduceAdd, Nat.reduceSub, Nat.reduceEqDiff, Bool.false_eq_true, Bool.not_true, Bool.not_false, decide_true, decide_false, and_self, v_ninAl, dNeg, dFld, fldD, dProp, dMake, sFldPut, setF, dDic0, dChain, sForO, iRA, hg, e]
  rw [e]
  unfold lD iD
  rw [List.map_map]
  rfl
theorem column (v p i : Nat) (hp : p ≠ v) (ns : List Nat) (s0 : S) (hs : ∀ x, (s0.set v x).set v .un = s0) (hg : ∀ x, (s0.set v x)[v]? = some x) (hi : s0[p]? = some (.val (.int i))) :
    compL [v] (gNm v) tTrue (dIf (dTst (dBin ltI (dVar p) (dCall lenN (aCons (dVar v) aNil)))) (dBin ixL (dVar v) (dVar p)) (dC (.int 0))) (rD ns) s0 = ok (iD (ns.map fun n => (bt n i : Int)), s0) := by
  have e := comp_allF v (dIf (dTst (dBin ltI (dVar p) (dCall lenN (aCons (dVar v) aNil)))) (dBin ixL (dVar v) (dVar p)) (dC (.int 0))) (fun n => D.lst (iN (dg 2 n))) (fun n => D.int (bt n i : Int)) s0 hs ns fun n hn => by
    have e : lenN [.lst (iN (dg 2 n))] = ok (.int (dg 2 n).length) := by
      unfold lenN
      dsimp only
      rw [List.length_map, List.length_map]
    have gp : ∀ x, (s0.set v x)[p]? = some (.val (.int i)) := fun x => by
      rw [List.getElem?_set_ne (Ne.symm hp)]
      exact hi
    by_cases c : i < (dg 2 n).length
    · have c' : (i : Int) < ((dg 2 n).length : Int) := by omega
      have a : L2.atI (iN (dg 2 n)) (i : Int) = some (.int (bt n i : Int)) := by
        refine L2.atI_nat ?_
        rw [List.getElem?_map, List.getElem?_map, dg_get, if_pos c]
        rfl
      simp only [runP, runF, runI, sSeq, sSet, sRet, sRetF, sRetN, sIf, sAsg, sPar, sPar3, sExpr, sNil, sNever, sPub, sOwn, sApp, sPut, dBin, dVar, dC, dTst, dNot, dAnd, dOr, vAnd, vOr, vNot, dIf, dTup, dLst, aNil, aCons, dCall, dCallU, dCallK, dCallI, dIsi, dOwnIx, gNm, gTp, gsNil, gsCons, iR1, iEn, iLst, dListZip, dRep, ownL, ownD, putL, putD, pubS, bd_ok', v_add, v_sub, v_lt, v_le, v_gt, v_ge, v_is0, v_is1, v_eqI, v_neI, v_isII, v_isBI, List.map_cons, List.map_nil, List.cons_append, List.nil_append, List.append_nil, List.length_cons, List.length_nil, List.replicate, List.getElem?_cons_zero, List.getElem?_cons_succ, List.set_cons_zero, List.set_cons_succ, if_true, if_false, Nat.reduceAdd, Nat.reduceSub, Nat.reduceEqDiff, Bool.false_eq_true, Bool.not_true, Bool.not_false, decide_true, decide_false, and_self, v_ninAl, dNeg, dFld, fldD, dProp, dMake, sFldPut, setF, dDic0, dChain, sForO, iRA, hg, gp, e, c', ixL, a]
    · have c' : ¬ (i : Int) < ((dg 2 n).length : Int) := by omega
      have z : (bt n i : Int) = 0 := by
        rw [bt_out c]
        rfl
      simp only [runP, runF, runI, sSeq, sSet, sRet, sRetF, sRetN, sIf, sAsg, sPar, sPar3, sExpr, sNil, sNever, sPub, sOwn, sApp, sPut, dBin, dVar, dC, dTst, dNot, dAnd, dOr, vAnd, vOr, vNot, dIf, dTup, dLst, aNil, aCons, dCall, dCallU, dCallK, dCallI, dIsi, dOwnIx, gNm, gTp, gsNil, gsCons, iR1, iEn, iLst, dListZip, dRep, ownL, ownD, putL, putD, pubS, bd_ok', v_add, v_sub, v_lt, v_le, v_gt, v_ge, v_is0, v_is1, v_eqI, v_neI, v_isII, v_isBI, List.map_cons, List.map_nil, List.cons_append, List.nil_append, List.append_nil, List.length_cons, List.length_nil, List.replicate, List.getElem?_cons_zero, List.getElem?_cons_succ, List.set_cons_zero, List.set_cons_succ, if_true, if_false, Nat.reduceAdd, Nat.reduceSub, Nat.reduceEqDiff, Bool.false_eq_true, Bool.not_true, Bool.not_false, decide_true, decide_false, and_self, v_ninAl, dNeg, dFld, fldD, dProp, dMake, sFldPut, setF, dDic0, dChain, sForO, iRA, hg, gp, e, c', z]
  rw [e]
  unfold iD
  rw [List.map_map]
  rfl
theorem size_of (ns : List Nat) (h0 : ns ≠ []) (h : ∀ n ∈ ns, n < 2 ^ 250) : ∃ k : Nat, maxN [.lst (iD (lD ns))] = ok (.int k) ∧ k ≤ 250 ∧ ∀ n ∈ ns, n < 2 ^ k := by
  have hz : lD ns ≠ [] := by
    intro z
    exact h0 (List.map_eq_nil_iff.mp z)
  obtain ⟨m1, m2⟩ := maxL_spec (lD ns) hz
  obtain ⟨n, hn, en⟩ := List.mem_map.mp m1
  refine ⟨(dg 2 n).length, ?_, dg_len (by decide) 250 n (h n hn), fun m hm => ?_⟩
  · rw [maxN_of hz, ← en]
  · have := m2 _ (List.mem_map.mpr ⟨m, hm, rfl⟩)
    rw [← en] at this
    exact Nat.lt_of_lt_of_le (dg_lt m) (Nat.pow_le_pow_right (by decide) (by omega))
theorem maxB (i : Nat) (ns : List Nat) (h0 : ns ≠ []) : maxN [.lst (iD (ns.map fun n => (bt n i : Int)))] = ok (.int (bt (orL ns) i : Nat)) := by
  rw [maxN_of (fun z => h0 (List.map_eq_nil_iff.mp z)), max_bits i ns h0]
theorem minB (i : Nat) (ns : List Nat) (h0 : ns ≠ []) : minN [.lst (iD (ns.map fun n => (bt n i : Int)))] = ok (.int (bt (anL ns) i : Nat)) := by
  rw [minN_of (fun z => h0 (List.map_eq_nil_iff.mp z)), min_bits i ns h0]
theorem szD {α : Type} (xs : List α) (h : xs.length ≤ 300) : xs.length ≤ sizeLine := by
  show _ ≤ 2 ^ 24
  omega
theorem read_bits (r k : Nat) (h : r < 2 ^ k) : f_number_of [.lst (iN ((List.range k).map (bt r)).reverse), .int 3] = ok (.int (Bm r)) := by
  have e : f_number_of [.lst (iN ((List.range k).map (bt r)).reverse), .int 3] = _ := e_number_of 3 (by decide) ((List.range k).map (bt r))
  rw [e, vr_bits k r h]
theorem grow (r i : Nat) : iN ((List.range i).map (bt r)) ++ [.int (bt r i : Nat)] = iN ((List.range (i + 1)).map (bt r)) := by
  rw [List.range_succ]
  simp
theorem lenB (r i : Nat) : (iN ((List.range i).map (bt r))).length = i := by simp
def wd (jn : Bool) : D := if jn = true then .str "join" else .str "meet"
def pk (jn : Bool) (ns : List Nat) : Nat := if jn = true then orL ns else anL ns
theorem e_combined (jn : Bool) (ns : List Nat) (h0 : ns ≠ []) (h : ∀ n ∈ ns, n < 2 ^ 250) (hl : ns.length ≤ 300) : f_combined_digits [.tup (mD ns), wd jn] = ok (.int (Bm (pk jn ns))) := by
  obtain ⟨k, hk, hk2, hk3⟩ := size_of ns h0 h
  have hr : rngOk (k : Int) := ⟨by omega, by omega⟩
  have er : rangeD 0 (k : Int).toNat = iN (List.range k) := rangeD_iN k
  have l1 : (mD ns).length ≤ sizeLine := by
    rw [List.length_map]
    exact szD ns hl
  have l2 : (rD ns).length ≤ sizeLine := by
    rw [List.length_map]
    exact szD ns hl
  have c1 := rows_p ns h [.val (.tup (mD ns)), .val (wd jn), .un, .un, .un, .un, .un, .un, .un] (fun _ => rfl) (fun _ => rfl)
  have c2 := lens 5 ns [.val (.tup (mD ns)), .val (wd jn), .val (.lst (rD ns)), .un, .un, .un, .un, .un, .un] (fun _ => rfl) (fun _ => rfl)
  have hr2 : pk jn ns < 2 ^ k := by
    unfold pk
    split
    · exact or_lt k ns hk3
    · exact an_lt k ns h0 hk3
  obtain ⟨s', eL, x7, x8, rfl⟩ := forL_inv (T := gNm 7) (F := sSeq (sSet 8 (dComp (iLst (dVar 2)) [5] (gNm 5) tTrue (dIf (dTst (dBin ltI (dVar 7) (dCall lenN (aCons (dVar 5) aNil)))) (dBin ixL (dVar 5) (dVar 7)) (dC (.int 0)))))
    (sApp 6 (dIf (dTst (dBin eqS (dVar 1) (dC (.str "join")))) (dCall maxN (aCons (dVar 8) aNil)) (dCall minN (aCons (dVar 8) aNil)))))
    (fun i s => ∃ x7 x8 : Sl, s = [.val (.tup (mD ns)), .val (wd jn), .val (.lst (rD ns)), .un, .val (.int k), .un, .own (.lst (iN ((List.range i).map (bt (pk jn ns))))), x7, x8]) (iN (List.range k)) 0
    [.val (.tup (mD ns)), .val (wd jn), .val (.lst (rD ns)), .un, .val (.int k), .un, .own (.lst []), .un, .un] ⟨.un, .un, rfl⟩ (by
    rintro i d s hi ⟨x7, x8, rfl⟩
    rw [List.getElem?_map, List.getElem?_map] at hi
    have hik : i < k := by
      by_cases c : i < k
      · exact c
      · rw [List.getElem?_eq_none (by simpa using c)] at hi
        cases hi
    rw [List.getElem?_range hik] at hi
    cases hi
    rw [Nat.zero_add]
    have cc := column 5 7 i (by decide) ns [.val (.tup (mD ns)), .val (wd jn), .val (.lst (rD ns)), .un, .val (.int k), .un, .own (.lst (iN ((List.range i).map (bt (pk jn ns))))), .val (.int i), x8] (fun _ => rfl) (fun _ => rfl) rfl
    have m1 := maxB i ns h0
    have m2 := minB i ns h0
    have lt : (iN ((List.range i).map (bt (pk jn ns)))).length < sizeLine := by
      rw [lenB]
      exact szl (by omega)
    have gr := grow (pk jn ns) i
    refine ⟨_, [.val (.tup (mD ns)), .val (wd jn), .val (.lst (rD ns)), .un, .val (.int k), .un, .own (.lst (iN ((List.range (i + 1)).map (bt (pk jn ns))))), .val (.int i), .val (.lst (iD (ns.map fun n => (bt n i : Int))))], rfl, ?_, .val (.int i), .val (.lst (iD (ns.map fun n => (bt n i : Int)))), rfl⟩
    cases jn with
    | true =>
      have w := v_eqSS "join"
      rw [← gr]
      simp only [pk, wd, if_true] at lt cc ⊢
      simp only [dComp, wipeS, restS, keepV, runP, runF, runI, sSeq, sSet, sRet, sRetF, sRetN, sIf, sAsg, sPar, sPar3, sExpr, sNil, sNever, sPub, sOwn, sApp, sPut, dBin, dVar, dC, dTst, dNot, dAnd, dOr, vAnd, vOr, vNot, dIf, dTup, dLst, aNil, aCons, dCall, dCallU, dCallK, dCallI, dIsi, dOwnIx, gNm, gTp, gsNil, gsCons, iR1, iEn, iLst, dListZip, dRep, ownL, ownD, putL, putD, pubS, bd_ok', v_add, v_sub, v_lt, v_le, v_gt, v_ge, v_is0, v_is1, v_eqI, v_neI, v_isII, v_isBI, List.map_cons, List.map_nil, List.cons_append, List.nil_append, List.append_nil, List.length_cons, List.length_nil, List.replicate, List.getElem?_cons_zero, List.getElem?_cons_succ, List.set_cons_zero, List.set_cons_succ, if_true, if_false, Nat.reduceAdd, Nat.reduceSub, Nat.reduceEqDiff, Bool.false_eq_true, Bool.not_true, Bool.not_false, decide_true, decide_false, and_self, v_ninAl, dNeg, dFld, fldD, dProp, dMake, sFldPut, setF, dDic0, dChain, sForO, iRA, l2, cc, w, m1, lt]
    | false =>
      have w : eqS (.str "meet") (.str "join") = ok (.bl false) := by
        rw [v_eqS, decide_eq_false (by decide)]
      rw [← gr]
      simp only [pk, wd, if_false, Bool.false_eq_true] at lt cc ⊢
      simp only [dComp, wipeS, restS, keepV, runP, runF, runI, sSeq, sSet, sRet, sRetF, sRetN, sIf, sAsg, sPar, sPar3, sExpr, sNil, sNever, sPub, sOwn, sApp, sPut, dBin, dVar, dC, dTst, dNot, dAnd, dOr, vAnd, vOr, vNot, dIf, dTup, dLst, aNil, aCons, dCall, dCallU, dCallK, dCallI, dIsi, dOwnIx, gNm, gTp, gsNil, gsCons, iR1, iEn, iLst, dListZip, dRep, ownL, ownD, putL, putD, pubS, bd_ok', v_add, v_sub, v_lt, v_le, v_gt, v_ge, v_is0, v_is1, v_eqI, v_neI, v_isII, v_isBI, List.map_cons, List.map_nil, List.cons_append, List.nil_append, List.append_nil, List.length_cons, List.length_nil, List.replicate, List.getElem?_cons_zero, List.getElem?_cons_succ, List.set_cons_zero, List.set_cons_succ, if_true, if_false, Nat.reduceAdd, Nat.reduceSub, Nat.reduceEqDiff, Bool.false_eq_true, Bool.not_true, Bool.not_false, decide_true, decide_false, and_self, v_ninAl, dNeg, dFld, fldD, dProp, dMake, sFldPut, setF, dDic0, dChain, sForO, iRA, l2, cc, w, m2, lt])
  have lr : (iN (List.range k)).length = k := by simp
  rw [lr, Nat.zero_add] at eL
  have rv : (iN ((List.range k).map (bt (pk jn ns)))).reverse = iN ((List.range k).map (bt (pk jn ns))).reverse := by simp
  have e3 := read_bits (pk jn ns) k hr2
  have hz : 0 ≤ sizeLine := Nat.zero_le _
  simp only [f_combined_digits, b_combined_digits, dComp, wipeS, restS, keepV, sFor, iTp, dRev, runP, runF, runI, sSeq, sSet, sRet, sRetF, sRetN, sIf, sAsg, sPar, sPar3, sExpr, sNil, sNever, sPub, sOwn, sApp, sPut, dBin, dVar, dC, dTst, dNot, dAnd, dOr, vAnd, vOr, vNot, dIf, dTup, dLst, aNil, aCons, dCall, dCallU, dCallK, dCallI, dIsi, dOwnIx, gNm, gTp, gsNil, gsCons, iR1, iEn, iLst, dListZip, dRep, ownL, ownD, putL, putD, pubS, bd_ok', v_add, v_sub, v_lt, v_le, v_gt, v_ge, v_is0, v_is1, v_eqI, v_neI, v_isII, v_isBI, List.map_cons, List.map_nil, List.cons_append, List.nil_append, List.append_nil, List.length_cons, List.length_nil, List.replicate, List.getElem?_cons_zero, List.getElem?_cons_succ, List.set_cons_zero, List.set_cons_succ, if_true, if_false, Nat.reduceAdd, Nat.reduceSub, Nat.reduceEqDiff, Bool.false_eq_true, Bool.not_true, Bool.not_false, decide_true, decide_false, and_self, v_ninAl, dNeg, dFld, fldD, dProp, dMake, sFldPut, setF, dDic0, dChain, sForO, iRA, l1, l2, c1, c2, hk, hr, er, hz, eL, rv, e3]
theorem e_check_members (ns : List Nat) (h : ∀ n ∈ ns, n < 2 ^ 250) : f_check_members [.tup (mD ns)] = ok .non := by
  obtain ⟨s', eL, x1, x2, rfl⟩ := forL_inv (T := gTp (gsCons (gNm 1) (gsCons (gNm 2) gsNil))) (F := sIf (dNot (dTst (dCallU 1 f_is_plain_number [] (aCons (dVar 2) aNil)))) sNever sNil) (fun i s => ∃ x1 x2 : Sl, s = [.val (.tup (mD ns)), x1, x2]) (enumD 0 (mD ns)) 0 [.val (.tup (mD ns)), .un, .un] ⟨.un, .un, rfl⟩ (by
    rintro i d s hi ⟨x1, x2, rfl⟩
    obtain ⟨e, h1, rfl⟩ := enum_at _ _ _ _ hi
    rw [List.getElem?_map] at h1
    cases q : ns[i]? with
    | none =>
      rw [q] at h1
      cases h1
    | some n =>
      rw [q] at h1
      cases h1
      have e := e_plain n (Bm_300 (h n (List.mem_of_getElem? q)))
      refine ⟨[.val (.tup (mD ns)), .val (.int ((0 + i : Nat) : Int)), .val (.int (Bm n))], [.val (.tup (mD ns)), .val (.int ((0 + i : Nat) : Int)), .val (.int (Bm n))], rfl, ?_, _, _, rfl⟩
      simp only [runP, runF, runI, sSeq, sSet, sRet, sRetF, sRetN, sIf, sAsg, sPar, sPar3, sExpr, sNil, sNever, sPub, sOwn, sApp, sPut, dBin, dVar, dC, dTst, dNot, dAnd, dOr, vAnd, vOr, vNot, dIf, dTup, dLst, aNil, aCons, dCall, dCallU, dCallK, dCallI, dIsi, dOwnIx, gNm, gTp, gsNil, gsCons, iR1, iEn, iLst, dListZip, dRep, ownL, ownD, putL, putD, pubS, bd_ok', v_add, v_sub, v_lt, v_le, v_gt, v_ge, v_is0, v_is1, v_eqI, v_neI, v_isII, v_isBI, List.map_cons, List.map_nil, List.cons_append, List.nil_append, List.append_nil, List.length_cons, List.length_nil, List.replicate, List.getElem?_cons_zero, List.getElem?_cons_succ, List.set_cons_zero, List.set_cons_succ, if_true, if_false, Nat.reduceAdd, Nat.reduceSub, Nat.reduceEqDiff, Bool.false_eq_true, Bool.not_true, Bool.not_false, decide_true, decide_false, and_self, v_ninAl, dNeg, dFld, fldD, dProp, dMake, sFldPut, setF, dDic0, dChain, sForO, iRA, e])
  simp only [f_check_members, b_check_members, sFor, iEnT, runP, runF, runI, sSeq, sSet, sRet, sRetF, sRetN, sIf, sAsg, sPar, sPar3, sExpr, sNil, sNever, sPub, sOwn, sApp, sPut, dBin, dVar, dC, dTst, dNot, dAnd, dOr, vAnd, vOr, vNot, dIf, dTup, dLst, aNil, aCons, dCall, dCallU, dCallK, dCallI, dIsi, dOwnIx, gNm, gTp, gsNil, gsCons, iR1, iEn, iLst, dListZip, dRep, ownL, ownD, putL, putD, pubS, bd_ok', v_add, v_sub, v_lt, v_le, v_gt, v_ge, v_is0, v_is1, v_eqI, v_neI, v_isII, v_isBI, List.map_cons, List.map_nil, List.cons_append, List.nil_append, List.append_nil, List.length_cons, List.length_nil, List.replicate, List.getElem?_cons_zero, List.getElem?_cons_succ, List.set_cons_zero, List.set_cons_succ, if_true, if_false, Nat.reduceAdd, Nat.reduceSub, Nat.reduceEqDiff, Bool.false_eq_true, Bool.not_true, Bool.not_false, decide_true, decide_false, and_self, v_ninAl, dNeg, dFld, fldD, dProp, dMake, sFldPut, setF, dDic0, dChain, sForO, iRA, eL]
theorem ne_len {ns : List Nat} (h0 : ns ≠ []) : (0 : Int) < ((mD ns).length : Int) ∧ ¬ ((mD ns).length : Int) = 0 := by
  cases ns with
  | nil => exact absurd rfl h0
  | cons n ns =>
    rw [List.length_map, List.length_cons]
    constructor <;> omega
theorem e_join (ns : List Nat) (h0 : ns ≠ []) (h : ∀ n ∈ ns, n < 2 ^ 250) (hl : ns.length ≤ 300) : f_join [.tup (mD ns)] = ok (.int (Bm (orL ns))) := by
  have e1 := e_check_members ns h
  have e2 : f_combined_digits [.tup (mD ns), .str "join"] = ok (.int (Bm (orL ns))) := e_combined true ns h0 h hl
  simp only [f_join, b_join, lenN, runP, runF, runI, sSeq, sSet, sRet, sRetF, sRetN, sIf, sAsg, sPar, sPar3, sExpr, sNil, sNever, sPub, sOwn, sApp, sPut, dBin, dVar, dC, dTst, dNot, dAnd, dOr, vAnd, vOr, vNot, dIf, dTup, dLst, aNil, aCons, dCall, dCallU, dCallK, dCallI, dIsi, dOwnIx, gNm, gTp, gsNil, gsCons, iR1, iEn, iLst, dListZip, dRep, ownL, ownD, putL, putD, pubS, bd_ok', v_add, v_sub, v_lt, v_le, v_gt, v_ge, v_is0, v_is1, v_eqI, v_neI, v_isII, v_isBI, List.map_cons, List.map_nil, List.cons_append, List.nil_append, List.append_nil, List.length_cons, List.length_nil, List.replicate, List.getElem?_cons_zero, List.getElem?_cons_succ, List.set_cons_zero, List.set_cons_succ, if_true, if_false, Nat.reduceAdd, Nat.reduceSub, Nat.reduceEqDiff, Bool.false_eq_true, Bool.not_true, Bool.not_false, decide_true, decide_false, and_self, v_ninAl, dNeg, dFld, fldD, dProp, dMake, sFldPut, setF, dDic0, dChain, sForO, iRA, e1, e2, (ne_len h0).1]
theorem e_meet (ns : List Nat) (h0 : ns ≠ []) (h : ∀ n ∈ ns, n < 2 ^ 250) (hl : ns.length ≤ 300) : f_meet [.tup (mD ns)] = ok (.int (Bm (anL ns))) := by
  have e1 := e_check_members ns h
  have e2 : f_combined_digits [.tup (mD ns), .str "meet"] = ok (.int (Bm (anL ns))) := e_combined false ns h0 h hl
  simp only [f_meet, b_meet, lenN, runP, runF, runI, sSeq, sSet, sRet, sRetF, sRetN, sIf, sAsg, sPar, sPar3, sExpr, sNil, sNever, sPub, sOwn, sApp, sPut, dBin, dVar, dC, dTst, dNot, dAnd, dOr, vAnd, vOr, vNot, dIf, dTup, dLst, aNil, aCons, dCall, dCallU, dCallK, dCallI, dIsi, dOwnIx, gNm, gTp, gsNil, gsCons, iR1, iEn, iLst, dListZip, dRep, ownL, ownD, putL, putD, pubS, bd_ok', v_add, v_sub, v_lt, v_le, v_gt, v_ge, v_is0, v_is1, v_eqI, v_neI, v_isII, v_isBI, List.map_cons, List.map_nil, List.cons_append, List.nil_append, List.append_nil, List.length_cons, List.length_nil, List.replicate, List.getElem?_cons_zero, List.getElem?_cons_succ, List.set_cons_zero, List.set_cons_succ, if_true, if_false, Nat.reduceAdd, Nat.reduceSub, Nat.reduceEqDiff, Bool.false_eq_true, Bool.not_true, Bool.not_false, decide_true, decide_false, and_self, v_ninAl, dNeg, dFld, fldD, dProp, dMake, sFldPut, setF, dDic0, dChain, sForO, iRA, e1, e2, (ne_len h0).2]
/-- no digit 2 -/
def pl (n : Nat) : Prop := 2 ∉ dg 3 n
theorem pl_zero : pl 0 := by
  unfold pl
  rw [dg_zero]
  simp
theorem pl_iff (n : Nat) : pl n ↔ n % 3 ≠ 2 ∧ pl (n / 3) := by
  by_cases z : n = 0
  · subst z
    exact ⟨fun h => ⟨by decide, h⟩, fun h => h.2⟩
  · unfold pl
    rw [dg_pos (by decide) (by omega), List.mem_cons, not_or]
    exact ⟨fun h => ⟨fun e => h.1 e.symm, h.2⟩, fun h => ⟨fun e => h.1 e.symm, h.2⟩⟩
/-- the pair of a difference -/
def dp (n : Nat) : Nat × Nat := if h : n = 0 then (0, 0) else
  let q := dp (n / 3 + if n % 3 = 2 then 1 else 0)
  (3 * q.1 + (if n % 3 = 1 then 1 else 0), 3 * q.2 + (if n % 3 = 2 then 1 else 0))
termination_by n
decreasing_by
  split <;> omega
theorem dp_zero : dp 0 = (0, 0) := by
  rw [dp, dif_pos rfl]
theorem dp_pos {n : Nat} (h : n ≠ 0) : dp n = (3 * (dp (n / 3 + if n % 3 = 2 then 1 else 0)).1 + (if n % 3 = 1 then 1 else 0), 3 * (dp (n / 3 + if n % 3 = 2 then 1 else 0)).2 + (if n % 3 = 2 then 1 else 0)) := by
  rw [dp, dif_neg h]
theorem dp_step (Q : Nat → Nat × Nat → Prop) (h0 : Q 0 (0, 0)) (h1 : ∀ n q, n ≠ 0 → Q (n / 3 + if n % 3 = 2 then 1 else 0) q → Q n (3 * q.1 + (if n % 3 = 1 then 1 else 0), 3 * q.2 + (if n % 3 = 2 then 1 else 0))) (n : Nat) : Q n (dp n) := by
  induction n using Nat.strongRecOn with | _ n ih =>
    by_cases z : n = 0
    · subst z
      rw [dp_zero]
      exact h0
    · rw [dp_pos z]
      exact h1 n _ z (ih _ (by split <;> omega))
theorem dp_diff (n : Nat) : (dp n).1 = (dp n).2 + n := by
  refine dp_step (fun n q => q.1 = q.2 + n) rfl (fun n q _ h => ?_) n
  dsimp only
  split at h <;> split <;> omega
theorem dp_le (n : Nat) : (dp n).1 ≤ 2 * n ∧ (n ≠ 0 → (dp n).1 < 2 * n) := by
  refine dp_step (fun n q => q.1 ≤ 2 * n ∧ (n ≠ 0 → q.1 < 2 * n)) ⟨Nat.le_refl _, fun h => absurd rfl h⟩ (fun n q z h => ?_) n
  dsimp only
  obtain ⟨h1, h2⟩ := h
  rcases (show n % 3 = 0 ∨ n % 3 = 1 ∨ n % 3 = 2 by omega) with c | c | c
  · rw [if_neg (show ¬ n % 3 = 2 by omega)] at h1 h2
    rw [if_neg (show ¬ n % 3 = 1 by omega)]
    (exact ⟨by omega, fun _ => by omega⟩)
  · rw [if_neg (show ¬ n % 3 = 2 by omega)] at h1 h2
    rw [if_pos c]
    (exact ⟨by omega, fun _ => by omega⟩)
  · rw [if_pos c] at h1 h2
    rw [if_neg (show ¬ n % 3 = 1 by omega)]
    (exact ⟨by omega, fun _ => by omega⟩)
theorem dp_pl (n : Nat) : pl (dp n).1 ∧ pl (dp n).2 := by
  refine dp_step (fun n q => pl q.1 ∧ pl q.2) ⟨pl_zero, pl_zero⟩ (fun n q _ h => ?_) n
  dsimp only
  constructor
  · rw [pl_iff]
    refine ⟨by split <;> omega, ?_⟩
    have : (3 * q.1 + if n % 3 = 1 then 1 else 0) / 3 = q.1 := by split <;> omega
    rw [this]
    exact h.1
  · rw [pl_iff]
    refine ⟨by split <;> omega, ?_⟩
    have : (3 * q.2 + if n % 3 = 2 then 1 else 0) / 3 = q.2 := by split <;> omega
    rw [this]
    exact h.2
abbrev dpBody : S → M Out := sSeq (sAsg (dCall divmodN (aCons (dVar 1) (aCons (dC (.int 3)) aNil))) (gTp (gsCons (gNm 1) (gsCons (gNm 5) gsNil))))
    (sSeq (sIf (dTst (dBin eqD (dVar 5) (dC (.int 1))))
    (sSet 2 (dBin addI (dVar 2) (dVar 4)))
    sNil)
    (sSeq (sIf (dTst (dBin eqD (dVar 5) (dC (.int 2))))
    (sPar 1 3 (aCons (dBin addI (dVar 1) (dC (.int 1))) (aCons (dBin addI (dVar 3) (dVar 4)) aNil)))
    sNil)
    (sSet 4 (dBin mulI (dVar 4) (dC (.int 3))))))
theorem dp_go (g : Sl) (n one other power : Nat) (x : Sl) : dpBody [g, .val (.int n), .val (.int one), .val (.int other), .val (.int power), x] =
    ok (.nx [g, .val (.int (n / 3 + if n % 3 = 2 then 1 else 0 : Nat)), .val (.int (one + if n % 3 = 1 then power else 0 : Nat)), .val (.int (other + if n % 3 = 2 then power else 0 : Nat)), .val (.int (power * 3 : Nat)), .val (.int (n % 3 : Nat))]) := by
  have h3 : divOk 3 := dvSmall (n := 3) (by decide) (by decide)
  have e1 : (n : Int) / 3 = ((n / 3 : Nat) : Int) := rfl
  have e2 : (n : Int) % 3 = ((n % 3 : Nat) : Int) := rfl
  have m3 := fun i : Int => v_mulR (i := i) (show -(2 ^ 64) < (3 : Int) by decide) (show (3 : Int) < 2 ^ 64 by decide)
  have e3 : ((power * 3 : Nat) : Int) = (power : Int) * 3 := by omega
  have e4 : ((other + power : Nat) : Int) = (other : Int) + power := by omega
  have e5 : ((one + power : Nat) : Int) = (one : Int) + power := by omega
  have e6 : ((n / 3 + 1 : Nat) : Int) = ((n / 3 : Nat) : Int) + 1 := by omega
  rcases (show n % 3 = 0 ∨ n % 3 = 1 ∨ n % 3 = 2 by omega) with c | c | c
  · rw [if_neg (show ¬ n % 3 = 2 by omega), if_neg (show ¬ n % 3 = 1 by omega), if_neg (show ¬ n % 3 = 2 by omega), e3, Nat.add_zero, Nat.add_zero, Nat.add_zero]
    have z1 : ¬ ((n % 3 : Nat) : Int) = 1 := by omega
    have z2 : ¬ ((n % 3 : Nat) : Int) = 2 := by omega
    simp only [dpBody, runP, runF, runI, sSeq, sSet, sRet, sRetF, sRetN, sIf, sAsg, sPar, sPar3, sExpr, sNil, sNever, sPub, sOwn, sApp, sPut, dBin, dVar, dC, dTst, dNot, dAnd, dOr, vAnd, vOr, vNot, dIf, dTup, dLst, aNil, aCons, dCall, dCallU, dCallK, dCallI, dIsi, dOwnIx, gNm, gTp, gsNil, gsCons, iR1, iEn, iLst, dListZip, dRep, ownL, ownD, putL, putD, pubS, bd_ok', v_add, v_sub, v_lt, v_le, v_gt, v_ge, v_is0, v_is1, v_eqI, v_neI, v_isII, v_isBI, List.map_cons, List.map_nil, List.cons_append, List.nil_append, List.append_nil, List.length_cons, List.length_nil, List.replicate, List.getElem?_cons_zero, List.getElem?_cons_succ, List.set_cons_zero, List.set_cons_succ, if_true, if_false, Nat.reduceAdd, Nat.reduceSub, Nat.reduceEqDiff, Bool.false_eq_true, Bool.not_true, Bool.not_false, decide_true, decide_false, and_self, v_ninAl, dNeg, dFld, fldD, dProp, dMake, sFldPut, setF, dDic0, dChain, sForO, iRA, divmodN, h3, e1, e2, m3, z1, z2]
  · rw [if_neg (show ¬ n % 3 = 2 by omega), if_pos c, if_neg (show ¬ n % 3 = 2 by omega), e3, e5, Nat.add_zero, Nat.add_zero]
    have z1 : ((n % 3 : Nat) : Int) = 1 := by omega
    have z2 : ¬ ((n % 3 : Nat) : Int) = 2 := by omega
    simp only [dpBody, runP, runF, runI, sSeq, sSet, sRet, sRetF, sRetN, sIf, sAsg, sPar, sPar3, sExpr, sNil, sNever, sPub, sOwn, sApp, sPut, dBin, dVar, dC, dTst, dNot, dAnd, dOr, vAnd, vOr, vNot, dIf, dTup, dLst, aNil, aCons, dCall, dCallU, dCallK, dCallI, dIsi, dOwnIx, gNm, gTp, gsNil, gsCons, iR1, iEn, iLst, dListZip, dRep, ownL, ownD, putL, putD, pubS, bd_ok', v_add, v_sub, v_lt, v_le, v_gt, v_ge, v_is0, v_is1, v_eqI, v_neI, v_isII, v_isBI, List.map_cons, List.map_nil, List.cons_append, List.nil_append, List.append_nil, List.length_cons, List.length_nil, List.replicate, List.getElem?_cons_zero, List.getElem?_cons_succ, List.set_cons_zero, List.set_cons_succ, if_true, if_false, Nat.reduceAdd, Nat.reduceSub, Nat.reduceEqDiff, Bool.false_eq_true, Bool.not_true, Bool.not_false, decide_true, decide_false, and_self, v_ninAl, dNeg, dFld, fldD, dProp, dMake, sFldPut, setF, dDic0, dChain, sForO, iRA, divmodN, h3, e1, e2, m3, z1, show ¬ (1 : Int) = 2 by decide]
  · rw [if_pos c, if_neg (show ¬ n % 3 = 1 by omega), if_pos c, e3, e4, e6, Nat.add_zero]
    have z1 : ¬ ((n % 3 : Nat) : Int) = 1 := by omega
    have z2 : ((n % 3 : Nat) : Int) = 2 := by omega
    simp only [dpBody, runP, runF, runI, sSeq, sSet, sRet, sRetF, sRetN, sIf, sAsg, sPar, sPar3, sExpr, sNil, sNever, sPub, sOwn, sApp, sPut, dBin, dVar, dC, dTst, dNot, dAnd, dOr, vAnd, vOr, vNot, dIf, dTup, dLst, aNil, aCons, dCall, dCallU, dCallK, dCallI, dIsi, dOwnIx, gNm, gTp, gsNil, gsCons, iR1, iEn, iLst, dListZip, dRep, ownL, ownD, putL, putD, pubS, bd_ok', v_add, v_sub, v_lt, v_le, v_gt, v_ge, v_is0, v_is1, v_eqI, v_neI, v_isII, v_isBI, List.map_cons, List.map_nil, List.cons_append, List.nil_append, List.append_nil, List.length_cons, List.length_nil, List.replicate, List.getElem?_cons_zero, List.getElem?_cons_succ, List.set_cons_zero, List.set_cons_succ, if_true, if_false, Nat.reduceAdd, Nat.reduceSub, Nat.reduceEqDiff, Bool.false_eq_true, Bool.not_true, Bool.not_false, decide_true, decide_false, and_self, v_ninAl, dNeg, dFld, fldD, dProp, dMake, sFldPut, setF, dDic0, dChain, sForO, iRA, divmodN, h3, e1, e2, m3, z2, show ¬ (2 : Int) = 1 by decide]
theorem dp_loop (g : Sl) (n : Nat) : ∀ (one other power : Nat) (x : Sl), ∃ p' x', sWhile (dTst (dBin gtI (dVar 1) (dC (.int 0)))) dpBody [g, .val (.int n), .val (.int one), .val (.int other), .val (.int power), x] =
    ok (.nx [g, .val (.int 0), .val (.int ((one + power * (dp n).1 : Nat) : Int)), .val (.int ((other + power * (dp n).2 : Nat) : Int)), p', x']) := by
  induction n using Nat.strongRecOn with | _ n ih =>
    intro one other power x
    by_cases z : n = 0
    · subst z
      rw [dp_zero]
      refine ⟨.val (.int power), x, ?_⟩
      simp only [Nat.mul_zero, Nat.add_zero]
      refine while_stop ?_
      simp only [runP, runF, runI, sSeq, sSet, sRet, sRetF, sRetN, sIf, sAsg, sPar, sPar3, sExpr, sNil, sNever, sPub, sOwn, sApp, sPut, dBin, dVar, dC, dTst, dNot, dAnd, dOr, vAnd, vOr, vNot, dIf, dTup, dLst, aNil, aCons, dCall, dCallU, dCallK, dCallI, dIsi, dOwnIx, gNm, gTp, gsNil, gsCons, iR1, iEn, iLst, dListZip, dRep, ownL, ownD, putL, putD, pubS, bd_ok', v_add, v_sub, v_lt, v_le, v_gt, v_ge, v_is0, v_is1, v_eqI, v_neI, v_isII, v_isBI, List.map_cons, List.map_nil, List.cons_append, List.nil_append, List.append_nil, List.length_cons, List.length_nil, List.replicate, List.getElem?_cons_zero, List.getElem?_cons_succ, List.set_cons_zero, List.set_cons_succ, if_true, if_false, Nat.reduceAdd, Nat.reduceSub, Nat.reduceEqDiff, Bool.false_eq_true, Bool.not_true, Bool.not_false, decide_true, decide_false, and_self, v_ninAl, dNeg, dFld, fldD, dProp, dMake, sFldPut, setF, dDic0, dChain, sForO, iRA]
      rfl
    · have hn : (0 : Int) < n := by omega
      obtain ⟨p', x', e⟩ := ih (n / 3 + if n % 3 = 2 then 1 else 0) (by split <;> omega) (one + if n % 3 = 1 then power else 0) (other + if n % 3 = 2 then power else 0) (power * 3) (.val (.int (n % 3 : Nat)))
      refine ⟨p', x', while_go (by simp only [runP, runF, runI, sSeq, sSet, sRet, sRetF, sRetN, sIf, sAsg, sPar, sPar3, sExpr, sNil, sNever, sPub, sOwn, sApp, sPut, dBin, dVar, dC, dTst, dNot, dAnd, dOr, vAnd, vOr, vNot, dIf, dTup, dLst, aNil, aCons, dCall, dCallU, dCallK, dCallI, dIsi, dOwnIx, gNm, gTp, gsNil, gsCons, iR1, iEn, iLst, dListZip, dRep, ownL, ownD, putL, putD, pubS, bd_ok', v_add, v_sub, v_lt, v_le, v_gt, v_ge, v_is0, v_is1, v_eqI, v_neI, v_isII, v_isBI, List.map_cons, List.map_nil, List.cons_append, List.nil_append, List.append_nil, List.length_cons, List.length_nil, List.replicate, List.getElem?_cons_zero, List.getElem?_cons_succ, List.set_cons_zero, List.set_cons_succ, if_true, if_false, Nat.reduceAdd, Nat.reduceSub, Nat.reduceEqDiff, Bool.false_eq_true, Bool.not_true, Bool.not_false, decide_true, decide_false, and_self, v_ninAl, dNeg, dFld, fldD, dProp, dMake, sFldPut, setF, dDic0, dChain, sForO, iRA, hn]) (dp_go g n one other power x) (e.trans ?_)⟩
      rw [dp_pos z]
      dsimp only
      generalize (dp (n / 3 + if n % 3 = 2 then 1 else 0)).1 = a
      generalize (dp (n / 3 + if n % 3 = 2 then 1 else 0)).2 = b
      have e1 : (one + if n % 3 = 1 then power else 0) + power * 3 * a = one + power * (3 * a + if n % 3 = 1 then 1 else 0) := by
        rw [Nat.mul_add, Nat.mul_assoc]
        split <;> omega
      have e2 : (other + if n % 3 = 2 then power else 0) + power * 3 * b = other + power * (3 * b + if n % 3 = 2 then 1 else 0) := by
        rw [Nat.mul_add, Nat.mul_assoc]
        split <;> omega
      rw [e1, e2]
def dpI (g : Int) : Int × Int := if 0 ≤ g then ((dp g.natAbs).1, (dp g.natAbs).2) else ((dp g.natAbs).2, (dp g.natAbs).1)
theorem e_diff (g : Int) : f_difference_pair [.int g] = ok (.tup [.int (dpI g).1, .int (dpI g).2]) := by
  have e1 := e_is_int g
  have e2 : (if g < 0 then -g else g) = (g.natAbs : Int) := by split <;> omega
  have h4 : 0 + 1 + 1 + 1 + 1 ≤ sizeLine := by
    show 4 ≤ 2 ^ 24
    decide
  have h2 : 0 + 1 + 1 ≤ sizeLine := by
    show 2 ≤ 2 ^ 24
    decide
  obtain ⟨p', x', e⟩ := dp_loop (.val (.int g)) g.natAbs 0 0 1 .un
  simp only [Nat.zero_add, Nat.one_mul] at e
  have e : sWhile _ _ [.val (.int g), .val (.int (g.natAbs : Int)), .val (.int 0), .val (.int 0), .val (.int 1), .un] = _ := e
  unfold dpI
  by_cases hg : 0 ≤ g
  · rw [if_pos hg]
    simp only [f_difference_pair, b_difference_pair, absN, runP, runF, runI, sSeq, sSet, sRet, sRetF, sRetN, sIf, sAsg, sPar, sPar3, sExpr, sNil, sNever, sPub, sOwn, sApp, sPut, dBin, dVar, dC, dTst, dNot, dAnd, dOr, vAnd, vOr, vNot, dIf, dTup, dLst, aNil, aCons, dCall, dCallU, dCallK, dCallI, dIsi, dOwnIx, gNm, gTp, gsNil, gsCons, iR1, iEn, iLst, dListZip, dRep, ownL, ownD, putL, putD, pubS, bd_ok', v_add, v_sub, v_lt, v_le, v_gt, v_ge, v_is0, v_is1, v_eqI, v_neI, v_isII, v_isBI, List.map_cons, List.map_nil, List.cons_append, List.nil_append, List.append_nil, List.length_cons, List.length_nil, List.replicate, List.getElem?_cons_zero, List.getElem?_cons_succ, List.set_cons_zero, List.set_cons_succ, if_true, if_false, Nat.reduceAdd, Nat.reduceSub, Nat.reduceEqDiff, Bool.false_eq_true, Bool.not_true, Bool.not_false, decide_true, decide_false, and_self, v_ninAl, dNeg, dFld, fldD, dProp, dMake, sFldPut, setF, dDic0, dChain, sForO, iRA, e1, e2, h4, h2, e, hg]
  · rw [if_neg hg]
    simp only [f_difference_pair, b_difference_pair, absN, runP, runF, runI, sSeq, sSet, sRet, sRetF, sRetN, sIf, sAsg, sPar, sPar3, sExpr, sNil, sNever, sPub, sOwn, sApp, sPut, dBin, dVar, dC, dTst, dNot, dAnd, dOr, vAnd, vOr, vNot, dIf, dTup, dLst, aNil, aCons, dCall, dCallU, dCallK, dCallI, dIsi, dOwnIx, gNm, gTp, gsNil, gsCons, iR1, iEn, iLst, dListZip, dRep, ownL, ownD, putL, putD, pubS, bd_ok', v_add, v_sub, v_lt, v_le, v_gt, v_ge, v_is0, v_is1, v_eqI, v_neI, v_isII, v_isBI, List.map_cons, List.map_nil, List.cons_append, List.nil_append, List.append_nil, List.length_cons, List.length_nil, List.replicate, List.getElem?_cons_zero, List.getElem?_cons_succ, List.set_cons_zero, List.set_cons_succ, if_true, if_false, Nat.reduceAdd, Nat.reduceSub, Nat.reduceEqDiff, Bool.false_eq_true, Bool.not_true, Bool.not_false, decide_true, decide_false, and_self, v_ninAl, dNeg, dFld, fldD, dProp, dMake, sFldPut, setF, dDic0, dChain, sForO, iRA, e1, e2, h4, h2, e, hg]
theorem dp_bound {g : Int} (h : g.natAbs < 3 ^ 126) : (dp g.natAbs).1 < 3 ^ 127 ∧ (dp g.natAbs).2 < 3 ^ 127 := by
  have h1 := (dp_le g.natAbs).1
  have h2 := dp_diff g.natAbs
  have h3 : 2 * 3 ^ 126 < 3 ^ 127 := by decide
  omega
/-! ### members and digits -/
theorem Bm_mono {a b : Nat} (h : a ≤ b) : Bm a ≤ Bm b := by
  induction b with
  | zero =>
    have : a = 0 := by omega
    rw [this]
    exact Nat.le_refl _
  | succ b ih =>
    by_cases c : a = b + 1
    · rw [c]
      exact Nat.le_refl _
    · exact Nat.le_trans (ih (by omega)) (Nat.le_of_lt (Bm_lt b))
theorem Bm_strict {a b : Nat} (h : a < b) : Bm a < Bm b := Nat.lt_of_lt_of_le (Bm_lt a) (Bm_mono h)
theorem Bm_inj {a b : Nat} (h : Bm a = Bm b) : a = b := by
  rcases Nat.lt_trichotomy a b with c | c | c
  · have := Bm_strict c
    omega
  · exact c
  · have := Bm_strict c
    omega
theorem Bm_le_iff {a b : Nat} : Bm a ≤ Bm b ↔ a ≤ b := ⟨fun h => by
  (rcases Nat.lt_or_ge b a with c | c)
  · have := Bm_strict c
    omega
  · exact c, Bm_mono⟩
theorem Bm_ge (n : Nat) : n ≤ Bm n := by
  induction n with
  | zero => exact Nat.zero_le _
  | succ n ih =>
    have := Bm_lt n
    omega
/-- digits that are 0 or 1 -/
theorem vr_Bm : ∀ ds : List Nat, (∀ d ∈ ds, d < 2) → Bm (vr 2 ds) = vr 3 ds
  | [], _ => by
    show Bm 0 = 0
    rw [Bm_zero]
  | d :: ds, h => by
    have ih := vr_Bm ds fun e he => h e (List.mem_cons_of_mem _ he)
    have hd := h d (List.mem_cons_self ..)
    show Bm (vr 2 ds * 2 + d) = vr 3 ds * 3 + d
    rw [Bm_rec, show (vr 2 ds * 2 + d) / 2 = vr 2 ds by omega, show (vr 2 ds * 2 + d) % 2 = d by omega, ih]
    omega
theorem vr_dgr (r : Nat) (hr : 2 ≤ r) (n : Nat) : vr r (dg r n) = n := by
  induction n using Nat.strongRecOn with | _ n ih =>
    by_cases z : n = 0
    · subst z
      rw [dg_zero]
      rfl
    · rw [dg_pos hr (by omega)]
      show vr r (dg r (n / r)) * r + n % r = n
      rw [ih (n / r) (Nat.div_lt_self (by omega) (by omega))]
      have := Nat.div_add_mod n r
      rw [Nat.mul_comm]
      exact this
theorem pl_digits {n : Nat} (h : pl n) : ∀ d ∈ dg 3 n, d < 2 := fun d hd => by
  have h1 := dg_mem 3 (by decide) n d hd
  have h2 : d ≠ 2 := fun z => h (by rw [← z]; exact hd)
  omega
theorem pl_Bm {n : Nat} (h : pl n) : Bm (vr 2 (dg 3 n)) = n := by
  rw [vr_Bm _ (pl_digits h), vr_dgr 3 (by decide)]
theorem Bm_pl (k : Nat) : pl (Bm k) := by
  intro z
  rw [dg_Bm] at z
  exact absurd (dg_mem 2 (by decide) k 2 z) (by decide)
theorem pl_of {n : Nat} : pl n ↔ ∃ k, n = Bm k := ⟨fun h => ⟨_, (pl_Bm h).symm⟩, fun ⟨k, e⟩ => e ▸ Bm_pl k⟩
theorem pl_cast (n : Nat) : (2 : Int) ∈ ((dg 3 n).reverse.map fun (j : Nat) => (j : Int)) ↔ ¬ pl n := by
  unfold pl
  rw [Classical.not_not, ← List.mem_reverse (as := dg 3 n)]
  exact mem_iN (k := 2)
instance (n : Nat) : Decidable (pl n) := by
  unfold pl
  infer_instance
theorem e_in_base (n : Nat) (h : n < 3 ^ 300) : f_in_base [.int n] = ok (.bl (decide (pl n))) := by
  have e1 := e_check n (by omega)
  have e2 : f_digits_in [.int n, .int 3] = _ := e_digits_in (r := 3) (by decide) (by decide) n h
  have e4 := v_ninL 2 ((dg 3 n).reverse.map fun (j : Nat) => (j : Int))
  have e3 := pl_cast n
  by_cases c : pl n
  · have c2 : ¬ (2 : Int) ∈ ((dg 3 n).reverse.map fun (j : Nat) => (j : Int)) := fun z => e3.mp z c
    simp only [f_in_base, b_in_base, f_are_plain, b_are_plain, runP, runF, runI, sSeq, sSet, sRet, sRetF, sRetN, sIf, sAsg, sPar, sPar3, sExpr, sNil, sNever, sPub, sOwn, sApp, sPut, dBin, dVar, dC, dTst, dNot, dAnd, dOr, vAnd, vOr, vNot, dIf, dTup, dLst, aNil, aCons, dCall, dCallU, dCallK, dCallI, dIsi, dOwnIx, gNm, gTp, gsNil, gsCons, iR1, iEn, iLst, dListZip, dRep, ownL, ownD, putL, putD, pubS, bd_ok', v_add, v_sub, v_lt, v_le, v_gt, v_ge, v_is0, v_is1, v_eqI, v_neI, v_isII, v_isBI, List.map_cons, List.map_nil, List.cons_append, List.nil_append, List.append_nil, List.length_cons, List.length_nil, List.replicate, List.getElem?_cons_zero, List.getElem?_cons_succ, List.set_cons_zero, List.set_cons_succ, if_true, if_false, Nat.reduceAdd, Nat.reduceSub, Nat.reduceEqDiff, Bool.false_eq_true, Bool.not_true, Bool.not_false, decide_true, decide_false, and_self, v_ninAl, dNeg, dFld, fldD, dProp, dMake, sFldPut, setF, dDic0, dChain, sForO, iRA, e1, e2, e4, c2, c]
  · have c2 : (2 : Int) ∈ ((dg 3 n).reverse.map fun (j : Nat) => (j : Int)) := e3.mpr c
    simp only [f_in_base, b_in_base, f_are_plain, b_are_plain, runP, runF, runI, sSeq, sSet, sRet, sRetF, sRetN, sIf, sAsg, sPar, sPar3, sExpr, sNil, sNever, sPub, sOwn, sApp, sPut, dBin, dVar, dC, dTst, dNot, dAnd, dOr, vAnd, vOr, vNot, dIf, dTup, dLst, aNil, aCons, dCall, dCallU, dCallK, dCallI, dIsi, dOwnIx, gNm, gTp, gsNil, gsCons, iR1, iEn, iLst, dListZip, dRep, ownL, ownD, putL, putD, pubS, bd_ok', v_add, v_sub, v_lt, v_le, v_gt, v_ge, v_is0, v_is1, v_eqI, v_neI, v_isII, v_isBI, List.map_cons, List.map_nil, List.cons_append, List.nil_append, List.append_nil, List.length_cons, List.length_nil, List.replicate, List.getElem?_cons_zero, List.getElem?_cons_succ, List.set_cons_zero, List.set_cons_succ, if_true, if_false, Nat.reduceAdd, Nat.reduceSub, Nat.reduceEqDiff, Bool.false_eq_true, Bool.not_true, Bool.not_false, decide_true, decide_false, and_self, v_ninAl, dNeg, dFld, fldD, dProp, dMake, sFldPut, setF, dDic0, dChain, sForO, iRA, e1, e2, e4, c2, c]
theorem e_in_baseB (k : Nat) (h : Bm k < 3 ^ 300) : f_in_base [.int (Bm k)] = ok (.bl true) := by
  rw [e_in_base _ h, decide_eq_true (Bm_pl k)]
/-! ### no three members are evenly spaced -/
theorem Bm_ap : ∀ a b c : Nat, 2 * Bm b = Bm a + Bm c → a = c := by
  intro a
  induction a using Nat.strongRecOn with | _ a ih =>
    intro b c h
    by_cases z : a = 0 ∧ b = 0
    · obtain ⟨rfl, rfl⟩ := z
      rw [Bm_zero] at h
      have := Bm_ge c
      omega
    · rw [Bm_rec a, Bm_rec b, Bm_rec c] at h
      have hm : a % 2 = c % 2 := by omega
      have hq : 2 * Bm (b / 2) = Bm (a / 2) + Bm (c / 2) := by omega
      by_cases za : a = 0
      · subst za
        have h2 : Bm (0 / 2) = 0 := Bm_zero
        -- go on with b
        have key : ∀ b c : Nat, 2 * Bm b = Bm c → c = 0 := by
          intro b
          induction b using Nat.strongRecOn with | _ b ih2 =>
            intro c h
            by_cases zb : b = 0
            · subst zb
              rw [Bm_zero] at h
              have := Bm_ge c
              omega
            · rw [Bm_rec b, Bm_rec c] at h
              have h3 : 2 * Bm (b / 2) = Bm (c / 2) := by omega
              have h4 := ih2 (b / 2) (by omega) (c / 2) h3
              have h5 : Bm (c / 2) = 0 := by rw [h4, Bm_zero]
              omega
        have h6 : 2 * Bm b = Bm c := by
          rw [Bm_rec b, Bm_rec c]
          omega
        exact (key b c h6).symm
      · have := ih (a / 2) (by omega) (b / 2) (c / 2) hq
        omega
/-! ### the plain pair -/
def lo (n : Nat) : Nat := vr 3 ((dg 3 n).map fun d => if d = 1 then 1 else 0)
def up (n : Nat) : Nat := vr 3 ((dg 3 n).map fun d => if 0 < d then 1 else 0)
theorem lo_zero : lo 0 = 0 := by
  unfold lo
  rw [dg_zero]
  rfl
theorem up_zero : up 0 = 0 := by
  unfold up
  rw [dg_zero]
  rfl
theorem lo_rec (n : Nat) : lo n = 3 * lo (n / 3) + if n % 3 = 1 then 1 else 0 := by
  by_cases z : n = 0
  · subst z
    rw [lo_zero]
    rfl
  · unfold lo
    rw [dg_pos (by decide) (by omega)]
    show vr 3 (List.map _ (dg 3 (n / 3))) * 3 + (if n % 3 = 1 then 1 else 0) = _
    omega
theorem up_rec (n : Nat) : up n = 3 * up (n / 3) + if 0 < n % 3 then 1 else 0 := by
  by_cases z : n = 0
  · subst z
    rw [up_zero]
    rfl
  · unfold up
    rw [dg_pos (by decide) (by omega)]
    show vr 3 (List.map _ (dg 3 (n / 3))) * 3 + (if 0 < n % 3 then 1 else 0) = _
    omega
theorem pair_eq (n : Nat) : 2 * up n = lo n + n ∧ lo n ≤ up n ∧ (lo n < up n ↔ ¬ pl n) ∧ up n ≤ n := by
  induction n using Nat.strongRecOn with | _ n ih =>
    by_cases z : n = 0
    · subst z
      rw [lo_zero, up_zero]
      exact ⟨rfl, Nat.le_refl _, ⟨fun h => absurd h (by decide), fun h => absurd pl_zero h⟩, Nat.le_refl _⟩
    · obtain ⟨h1, h2, h3, h4⟩ := ih (n / 3) (by omega)
      rw [lo_rec n, up_rec n]
      have hp := pl_iff n
      have hd : n % 3 = 0 ∨ n % 3 = 1 ∨ n % 3 = 2 := by omega
      rcases hd with d | d | d
      · rw [if_neg (by omega), if_neg (by omega)]
        refine ⟨by omega, by omega, ?_, by omega⟩
        rw [hp]
        constructor
        · intro q r
          exact h3.mp (by omega) r.2
        · intro q
          have : lo (n / 3) < up (n / 3) := h3.mpr fun r => q ⟨by omega, r⟩
          omega
      · rw [if_pos d, if_pos (by omega)]
        refine ⟨by omega, by omega, ?_, by omega⟩
        rw [hp]
        constructor
        · intro q r
          exact h3.mp (by omega) r.2
        · intro q
          have : lo (n / 3) < up (n / 3) := h3.mpr fun r => q ⟨by omega, r⟩
          omega
      · rw [if_pos (by omega), if_neg (by omega)]
        refine ⟨by omega, by omega, ?_, by omega⟩
        rw [hp]
        exact ⟨fun _ r => r.1 d, fun _ => by omega⟩
theorem lo_Bm (n : Nat) : ∃ k, lo n = Bm k := ⟨_, (vr_Bm _ fun d hd => by
  obtain ⟨e, _, rfl⟩ := List.mem_map.mp hd
  split <;> omega).symm⟩
theorem up_Bm (n : Nat) : ∃ k, up n = Bm k := ⟨_, (vr_Bm _ fun d hd => by
  obtain ⟨e, _, rfl⟩ := List.mem_map.mp hd
  split <;> omega).symm⟩
theorem e_pair (n : Nat) (h : n < 3 ^ 300) : f_plain_pair [.int n] = ok (.tup [.int (lo n), .int (up n)]) := by
  have e1 := e_check n (by omega)
  have e2 : f_digits_in [.int n, .int 3] = _ := e_digits_in (r := 3) (by decide) (by decide) n h
  have c1 := comp_all 4 (dCall intN (aCons (dBin eqD (dVar 4) (dC (.int 1))) aNil)) (fun d => if d = 1 then 1 else 0) [.val (.int n), .val (.lst (iN (dg 3 n).reverse)), .un, .un, .un] (fun _ => rfl) (dg 3 n).reverse fun k _ => by
    by_cases c : k = 1
    · subst c
      simp only [runP, runF, runI, sSeq, sSet, sRet, sRetF, sRetN, sIf, sAsg, sPar, sPar3, sExpr, sNil, sNever, sPub, sOwn, sApp, sPut, dBin, dVar, dC, dTst, dNot, dAnd, dOr, vAnd, vOr, vNot, dIf, dTup, dLst, aNil, aCons, dCall, dCallU, dCallK, dCallI, dIsi, dOwnIx, gNm, gTp, gsNil, gsCons, iR1, iEn, iLst, dListZip, dRep, ownL, ownD, putL, putD, pubS, bd_ok', v_add, v_sub, v_lt, v_le, v_gt, v_ge, v_is0, v_is1, v_eqI, v_neI, v_isII, v_isBI, List.map_cons, List.map_nil, List.cons_append, List.nil_append, List.append_nil, List.length_cons, List.length_nil, List.replicate, List.getElem?_cons_zero, List.getElem?_cons_succ, List.set_cons_zero, List.set_cons_succ, if_true, if_false, Nat.reduceAdd, Nat.reduceSub, Nat.reduceEqDiff, Bool.false_eq_true, Bool.not_true, Bool.not_false, decide_true, decide_false, and_self, v_ninAl, dNeg, dFld, fldD, dProp, dMake, sFldPut, setF, dDic0, dChain, sForO, iRA, intN]
      rfl
    · have c' : ¬ (k : Int) = 1 := by omega
      simp only [runP, runF, runI, sSeq, sSet, sRet, sRetF, sRetN, sIf, sAsg, sPar, sPar3, sExpr, sNil, sNever, sPub, sOwn, sApp, sPut, dBin, dVar, dC, dTst, dNot, dAnd, dOr, vAnd, vOr, vNot, dIf, dTup, dLst, aNil, aCons, dCall, dCallU, dCallK, dCallI, dIsi, dOwnIx, gNm, gTp, gsNil, gsCons, iR1, iEn, iLst, dListZip, dRep, ownL, ownD, putL, putD, pubS, bd_ok', v_add, v_sub, v_lt, v_le, v_gt, v_ge, v_is0, v_is1, v_eqI, v_neI, v_isII, v_isBI, List.map_cons, List.map_nil, List.cons_append, List.nil_append, List.append_nil, List.length_cons, List.length_nil, List.replicate, List.getElem?_cons_zero, List.getElem?_cons_succ, List.set_cons_zero, List.set_cons_succ, if_true, if_false, Nat.reduceAdd, Nat.reduceSub, Nat.reduceEqDiff, Bool.false_eq_true, Bool.not_true, Bool.not_false, decide_true, decide_false, and_self, v_ninAl, dNeg, dFld, fldD, dProp, dMake, sFldPut, setF, dDic0, dChain, sForO, iRA, intN, c, c']
      rfl
  have c2 := comp_all 4 (dCall intN (aCons (dBin gtI (dVar 4) (dC (.int 0))) aNil)) (fun d => if 0 < d then 1 else 0) [.val (.int n), .val (.lst (iN (dg 3 n).reverse)), .un, .un, .un] (fun _ => rfl) (dg 3 n).reverse fun k _ => by
    by_cases c : 0 < k
    · have c' : 0 < (k : Int) := by omega
      simp only [runP, runF, runI, sSeq, sSet, sRet, sRetF, sRetN, sIf, sAsg, sPar, sPar3, sExpr, sNil, sNever, sPub, sOwn, sApp, sPut, dBin, dVar, dC, dTst, dNot, dAnd, dOr, vAnd, vOr, vNot, dIf, dTup, dLst, aNil, aCons, dCall, dCallU, dCallK, dCallI, dIsi, dOwnIx, gNm, gTp, gsNil, gsCons, iR1, iEn, iLst, dListZip, dRep, ownL, ownD, putL, putD, pubS, bd_ok', v_add, v_sub, v_lt, v_le, v_gt, v_ge, v_is0, v_is1, v_eqI, v_neI, v_isII, v_isBI, List.map_cons, List.map_nil, List.cons_append, List.nil_append, List.append_nil, List.length_cons, List.length_nil, List.replicate, List.getElem?_cons_zero, List.getElem?_cons_succ, List.set_cons_zero, List.set_cons_succ, if_true, if_false, Nat.reduceAdd, Nat.reduceSub, Nat.reduceEqDiff, Bool.false_eq_true, Bool.not_true, Bool.not_false, decide_true, decide_false, and_self, v_ninAl, dNeg, dFld, fldD, dProp, dMake, sFldPut, setF, dDic0, dChain, sForO, iRA, intN, c, c']
      rfl
    · have c' : ¬ 0 < (k : Int) := by omega
      simp only [runP, runF, runI, sSeq, sSet, sRet, sRetF, sRetN, sIf, sAsg, sPar, sPar3, sExpr, sNil, sNever, sPub, sOwn, sApp, sPut, dBin, dVar, dC, dTst, dNot, dAnd, dOr, vAnd, vOr, vNot, dIf, dTup, dLst, aNil, aCons, dCall, dCallU, dCallK, dCallI, dIsi, dOwnIx, gNm, gTp, gsNil, gsCons, iR1, iEn, iLst, dListZip, dRep, ownL, ownD, putL, putD, pubS, bd_ok', v_add, v_sub, v_lt, v_le, v_gt, v_ge, v_is0, v_is1, v_eqI, v_neI, v_isII, v_isBI, List.map_cons, List.map_nil, List.cons_append, List.nil_append, List.append_nil, List.length_cons, List.length_nil, List.replicate, List.getElem?_cons_zero, List.getElem?_cons_succ, List.set_cons_zero, List.set_cons_succ, if_true, if_false, Nat.reduceAdd, Nat.reduceSub, Nat.reduceEqDiff, Bool.false_eq_true, Bool.not_true, Bool.not_false, decide_true, decide_false, and_self, v_ninAl, dNeg, dFld, fldD, dProp, dMake, sFldPut, setF, dDic0, dChain, sForO, iRA, intN, c, c']
      rfl
  have e3 : f_number_of [.lst (iN ((dg 3 n).map fun d => if d = 1 then 1 else 0).reverse), .int 3] = ok (.int (lo n)) := e_number_of 3 (by decide) _
  have e4 : f_number_of [.lst (iN ((dg 3 n).map fun d => if 0 < d then 1 else 0).reverse), .int 3] = ok (.int (up n)) := e_number_of 3 (by decide) _
  rw [List.map_reverse] at c1 c2
  have lz : ∀ ds : List Nat, ds.length ≤ 300 → (iN ds).length ≤ sizeLine := fun ds h => by
    rw [List.length_map, List.length_map]
    show _ ≤ 2 ^ 24
    omega
  have hl := dg_len (r := 3) (by decide) 300 n h
  have l0 := lz (dg 3 n).reverse (by rw [List.length_reverse]; exact hl)
  have l1 := lz ((dg 3 n).map fun d => if d = 1 then 1 else 0).reverse (by rw [List.length_reverse, List.length_map]; exact hl)
  have l2 := lz ((dg 3 n).map fun d => if 0 < d then 1 else 0).reverse (by rw [List.length_reverse, List.length_map]; exact hl)
  have h2 : 2 ≤ sizeLine := by
    show 2 ≤ 2 ^ 24
    decide
  simp only [f_plain_pair, b_plain_pair, dComp, wipeS, restS, keepV, runP, runF, runI, sSeq, sSet, sRet, sRetF, sRetN, sIf, sAsg, sPar, sPar3, sExpr, sNil, sNever, sPub, sOwn, sApp, sPut, dBin, dVar, dC, dTst, dNot, dAnd, dOr, vAnd, vOr, vNot, dIf, dTup, dLst, aNil, aCons, dCall, dCallU, dCallK, dCallI, dIsi, dOwnIx, gNm, gTp, gsNil, gsCons, iR1, iEn, iLst, dListZip, dRep, ownL, ownD, putL, putD, pubS, bd_ok', v_add, v_sub, v_lt, v_le, v_gt, v_ge, v_is0, v_is1, v_eqI, v_neI, v_isII, v_isBI, List.map_cons, List.map_nil, List.cons_append, List.nil_append, List.append_nil, List.length_cons, List.length_nil, List.replicate, List.getElem?_cons_zero, List.getElem?_cons_succ, List.set_cons_zero, List.set_cons_succ, if_true, if_false, Nat.reduceAdd, Nat.reduceSub, Nat.reduceEqDiff, Bool.false_eq_true, Bool.not_true, Bool.not_false, decide_true, decide_false, and_self, v_ninAl, dNeg, dFld, fldD, dProp, dMake, sFldPut, setF, dDic0, dChain, sForO, iRA, e1, e2, c1, c2, e3, e4, l0, l1, l2, h2]
/-! ### the rank of any number -/
theorem e_power2 (k : Nat) (hk : k ≤ 2000) : f_power_of [.int 2, .int k] = ok (.int (2 ^ k : Nat)) := by
  have hr : rngOk (k : Int) := ⟨by omega, by omega⟩
  have len : (rangeD 0 (k : Int).toNat).length = k := rangeD_len _ _
  have m2 := fun i : Int => v_mulR (i := i) (show -(2 ^ 64) < (2 : Int) by decide) (show (2 : Int) < 2 ^ 64 by decide)
  obtain ⟨s', eL, x, es⟩ := forL_inv (T := gNm 3) (F := sSet 2 (dBin mulI (dVar 2) (dVar 0))) (fun i s => ∃ x : Sl, s = [.val (.int 2), .val (.int k), .val (.int ((2 ^ i : Nat) : Int)), x]) (rangeD 0 (k : Int).toNat) 0 [.val (.int 2), .val (.int k), .val (.int 1), .un] ⟨.un, rfl⟩ (by
    rintro i d s hi ⟨x, rfl⟩
    rw [Nat.zero_add]
    refine ⟨[.val (.int 2), .val (.int k), .val (.int ((2 ^ i : Nat) : Int)), .val d], _, rfl, ?_, .val d, rfl⟩
    have e3 : ((2 ^ (i + 1) : Nat) : Int) = ((2 ^ i : Nat) : Int) * 2 := by
      rw [Nat.pow_succ]
      omega
    simp only [runP, runF, runI, sSeq, sSet, sRet, sRetF, sRetN, sIf, sAsg, sPar, sPar3, sExpr, sNil, sNever, sPub, sOwn, sApp, sPut, dBin, dVar, dC, dTst, dNot, dAnd, dOr, vAnd, vOr, vNot, dIf, dTup, dLst, aNil, aCons, dCall, dCallU, dCallK, dCallI, dIsi, dOwnIx, gNm, gTp, gsNil, gsCons, iR1, iEn, iLst, dListZip, dRep, ownL, ownD, putL, putD, pubS, bd_ok', v_add, v_sub, v_lt, v_le, v_gt, v_ge, v_is0, v_is1, v_eqI, v_neI, v_isII, v_isBI, List.map_cons, List.map_nil, List.cons_append, List.nil_append, List.append_nil, List.length_cons, List.length_nil, List.replicate, List.getElem?_cons_zero, List.getElem?_cons_succ, List.set_cons_zero, List.set_cons_succ, if_true, if_false, Nat.reduceAdd, Nat.reduceSub, Nat.reduceEqDiff, Bool.false_eq_true, Bool.not_true, Bool.not_false, decide_true, decide_false, and_self, v_ninAl, dNeg, dFld, fldD, dProp, dMake, sFldPut, setF, dDic0, dChain, sForO, iRA, m2, e3])
  rw [len, Nat.zero_add] at es
  subst es
  simp only [f_power_of, b_power_of, sFor, runP, runF, runI, sSeq, sSet, sRet, sRetF, sRetN, sIf, sAsg, sPar, sPar3, sExpr, sNil, sNever, sPub, sOwn, sApp, sPut, dBin, dVar, dC, dTst, dNot, dAnd, dOr, vAnd, vOr, vNot, dIf, dTup, dLst, aNil, aCons, dCall, dCallU, dCallK, dCallI, dIsi, dOwnIx, gNm, gTp, gsNil, gsCons, iR1, iEn, iLst, dListZip, dRep, ownL, ownD, putL, putD, pubS, bd_ok', v_add, v_sub, v_lt, v_le, v_gt, v_ge, v_is0, v_is1, v_eqI, v_neI, v_isII, v_isBI, List.map_cons, List.map_nil, List.cons_append, List.nil_append, List.append_nil, List.length_cons, List.length_nil, List.replicate, List.getElem?_cons_zero, List.getElem?_cons_succ, List.set_cons_zero, List.set_cons_succ, if_true, if_false, Nat.reduceAdd, Nat.reduceSub, Nat.reduceEqDiff, Bool.false_eq_true, Bool.not_true, Bool.not_false, decide_true, decide_false, and_self, v_ninAl, dNeg, dFld, fldD, dProp, dMake, sFldPut, setF, dDic0, dChain, sForO, iRA, hr, eL]
theorem Bm_split : ∀ m a b : Nat, b < 2 ^ m → Bm (a * 2 ^ m + b) = 3 ^ m * Bm a + Bm b
  | 0, a, b, h => by
    have : b = 0 := by simpa using h
    subst this
    rw [Bm_zero]
    simp
  | m + 1, a, b, h => by
    rw [Nat.pow_succ] at h
    rw [Bm_rec (a * 2 ^ (m + 1) + b), Bm_rec b]
    have e1 : (a * 2 ^ (m + 1) + b) / 2 = a * 2 ^ m + b / 2 := by
      rw [Nat.pow_succ, ← Nat.mul_assoc]
      omega
    have e2 : (a * 2 ^ (m + 1) + b) % 2 = b % 2 := by
      rw [Nat.pow_succ, ← Nat.mul_assoc]
      omega
    rw [e1, e2, Bm_split m a (b / 2) (by omega), Nat.pow_succ, Nat.mul_add, ← Nat.mul_assoc, Nat.mul_comm 3 (3 ^ m)]
    omega
theorem Bm_pow (m : Nat) : Bm (2 ^ m) = 3 ^ m := by
  have h := Bm_split m 1 0 (Nat.pow_pos (by decide))
  have e1 : Bm 1 = 1 := by rw [Bm_rec, Bm_zero]
  rw [e1, Bm_zero] at h
  simpa using h
theorem vr_app (r : Nat) : ∀ as bs : List Nat, vr r (as ++ bs) = vr r as + r ^ as.length * vr r bs
  | [], bs => by simp [vr]
  | a :: as, bs => by
    show vr r (as ++ bs) * r + a = (vr r as * r + a) + r ^ (as.length + 1) * vr r bs
    rw [vr_app r as bs, Nat.pow_succ, Nat.add_mul]
    have : r ^ as.length * vr r bs * r = r ^ as.length * r * vr r bs := by
      rw [Nat.mul_assoc, Nat.mul_comm (vr r bs) r, ← Nat.mul_assoc]
    omega
theorem vr_lt3 : ∀ ds : List Nat, (∀ d ∈ ds, d < 3) → vr 3 ds < 3 ^ ds.length
  | [], _ => by decide
  | d :: ds, h => by
    have ih := vr_lt3 ds fun e he => h e (List.mem_cons_of_mem _ he)
    have hd := h d (List.mem_cons_self ..)
    show vr 3 ds * 3 + d < 3 ^ (ds.length + 1)
    rw [Nat.pow_succ]
    omega
/-- at the first 2 -/
theorem cut2 : ∀ l : List Nat, 2 ∈ l → ∃ P T : List Nat, l = P ++ 2 :: T ∧ 2 ∉ P
  | [], h => by cases h
  | d :: l, h => by
    by_cases c : d = 2
    · subst c
      exact ⟨[], l, rfl, by simp⟩
    · have h2 : 2 ∈ l := by
        (rcases List.mem_cons.mp h with e | e)
        · exact absurd e.symm c
        · exact e
      obtain ⟨P, T, rfl, hP⟩ := cut2 l h2
      exact ⟨d :: P, T, rfl, fun z => by
        rcases List.mem_cons.mp z with e | e
        · exact c e.symm
        · exact hP e⟩
theorem find2 : ∀ P T : List Nat, 2 ∉ P → (((P ++ 2 :: T).map fun (j : Nat) => (j : Int)).map PyData.int).findIdx? (fun z => PyData.eqv z (.int 2)) = some P.length
  | [], T, _ => by
    simp only [List.nil_append, List.map_cons, List.findIdx?_cons]
    rfl
  | d :: P, T, h => by
    have hd : d ≠ 2 := fun z => h (by simp [z])
    have ih := find2 P T fun z => h (List.mem_cons_of_mem _ z)
    have hf : PyData.eqv (.int (d : Int)) (.int 2) = false := by
      show ((d : Int) == 2) = false
      (exact beq_false_of_ne (by omega))
    simp only [List.cons_append, List.map_cons, List.findIdx?_cons, hf, Bool.false_eq_true, if_false, ih, List.length_cons, Option.map_some]
theorem e_idx (P T : List Nat) (h : 2 ∉ P) : idxD (.lst (iN (P ++ 2 :: T))) (.int 2) = ok (.int (P.length : Nat)) := by
  unfold idxD
  dsimp only
  rw [plains_i, pys_i, shaped_i, D.py, find2 P T h]
  rfl
theorem e_rank_any (x : Nat) (h : x < 3 ^ 250) : ∃ n : Nat, f_rank_of [.int x] = ok (.int n) ∧ x ≤ Bm n ∧ (∀ m, m < n → Bm m < x) ∧ n ≤ 2 ^ 250 := by
  have h3 : x < 3 ^ 300 := Nat.lt_of_lt_of_le h (Nat.pow_le_pow_right (by decide) (by decide))
  have bound : ∀ n : Nat, (∀ m, m < n → Bm m < x) → n ≤ 2 ^ 250 := fun n hn => by
    rcases Nat.lt_or_ge (2 ^ 250) n with c | c
    · have := hn _ c
      rw [Bm_pow] at this
      omega
    · exact c
  have e2 : f_digits_in [.int x, .int 3] = _ := e_digits_in (r := 3) (by decide) (by decide) x h3
  have e4 := v_ninL 2 ((dg 3 x).reverse.map fun (j : Nat) => (j : Int))
  have ec := pl_cast x
  by_cases c : pl x
  · have c2 : ¬ (2 : Int) ∈ ((dg 3 x).reverse.map fun (j : Nat) => (j : Int)) := fun z => ec.mp z c
    have e3 : f_number_of [.lst (iN (dg 3 x).reverse), .int 2] = _ := e_number_of 2 (by decide) (dg 3 x)
    have hB := pl_Bm c
    have hlt : ∀ m, m < vr 2 (dg 3 x) → Bm m < x := fun m hm => by
      have := Bm_strict hm
      rwa [hB] at this
    refine ⟨vr 2 (dg 3 x), ?_, by omega, hlt, bound _ hlt⟩
    simp only [f_rank_of, b_rank_of, f_are_plain, b_are_plain, runP, runF, runI, sSeq, sSet, sRet, sRetF, sRetN, sIf, sAsg, sPar, sPar3, sExpr, sNil, sNever, sPub, sOwn, sApp, sPut, dBin, dVar, dC, dTst, dNot, dAnd, dOr, vAnd, vOr, vNot, dIf, dTup, dLst, aNil, aCons, dCall, dCallU, dCallK, dCallI, dIsi, dOwnIx, gNm, gTp, gsNil, gsCons, iR1, iEn, iLst, dListZip, dRep, ownL, ownD, putL, putD, pubS, bd_ok', v_add, v_sub, v_lt, v_le, v_gt, v_ge, v_is0, v_is1, v_eqI, v_neI, v_isII, v_isBI, List.map_cons, List.map_nil, List.cons_append, List.nil_append, List.append_nil, List.length_cons, List.length_nil, List.replicate, List.getElem?_cons_zero, List.getElem?_cons_succ, List.set_cons_zero, List.set_cons_succ, if_true, if_false, Nat.reduceAdd, Nat.reduceSub, Nat.reduceEqDiff, Bool.false_eq_true, Bool.not_true, Bool.not_false, decide_true, decide_false, and_self, v_ninAl, dNeg, dFld, fldD, dProp, dMake, sFldPut, setF, dDic0, dChain, sForO, iRA, e2, e3, e4, c2]
  · have c2 : (2 : Int) ∈ ((dg 3 x).reverse.map fun (j : Nat) => (j : Int)) := ec.mpr c
    have h2 : 2 ∈ (dg 3 x).reverse := by
      rw [List.mem_reverse]
      exact Classical.not_not.mp c
    obtain ⟨P, T, eq, hP⟩ := cut2 _ h2
    have hlen := dg_len (r := 3) (by decide) 250 x h
    have hl2 : P.length + (T.length + 1) ≤ 250 := by
      have e := congrArg List.length eq
      rw [List.length_reverse, List.length_append, List.length_cons] at e
      omega
    have e6 := e_idx P T hP
    rw [← eq] at e6
    have e7 : f_number_of [.lst (iN P), .int 2] = ok (.int (vr 2 P.reverse)) := by
      have := e_number_of 2 (by decide) P.reverse
      rw [List.reverse_reverse] at this
      exact this
    have ect : cutD (iN (dg 3 x).reverse) none (some (P.length : Int)) = iN P := by
      rw [cut_iN, eq, List.take_left']
      rfl
    have ln : lenN [.lst (iN (dg 3 x).reverse)] = ok (.int (P.length + (T.length + 1) : Nat)) := by
      unfold lenN
      dsimp only
      rw [eq, List.length_map, List.length_map, List.length_append, List.length_cons]
    have sb : ((P.length + (T.length + 1) : Nat) : Int) - (P.length : Int) = ((T.length + 1 : Nat) : Int) := by omega
    have e8 := e_power2 (T.length + 1) (by omega)
    -- reckoning
    have ex : dg 3 x = T.reverse ++ 2 :: P.reverse := by
      have e := congrArg List.reverse eq
      rw [List.reverse_reverse] at e
      rw [e]
      simp
    have hd : ∀ d ∈ dg 3 x, d < 3 := dg_mem 3 (by decide) x
    have hPd : ∀ d ∈ P.reverse, d < 2 := fun d hd2 => by
      have a := hd d (by rw [ex]; exact List.mem_append_right _ (List.mem_cons_of_mem _ hd2))
      have b : d ≠ 2 := fun z => hP (by rw [← z]; exact List.mem_reverse.mp hd2)
      omega
    have hTd : vr 3 T.reverse < 3 ^ T.reverse.length := vr_lt3 _ fun d hd2 => hd d (by rw [ex]; exact List.mem_append_left _ hd2)
    rw [List.length_reverse] at hTd
    have hx : x = vr 3 T.reverse + 3 ^ T.length * (vr 3 P.reverse * 3 + 2) := by
      have e := vr_dgr 3 (by decide) x
      rw [ex, vr_app, List.length_reverse] at e
      exact e.symm
    have hq := vr_Bm P.reverse hPd
    generalize hqq : vr 2 P.reverse = q at hq e7
    generalize vr 3 T.reverse = tt at hTd hx
    generalize vr 3 P.reverse = pp at hq hx
    generalize hm : T.length = m at *
    have p3 : 0 < 3 ^ m := Nat.pow_pos (by decide)
    have hx2 : x = tt + 2 * 3 ^ m + 3 * (3 ^ m * Bm q) := by
      rw [hx, hq, Nat.mul_add, ← Nat.mul_assoc]
      omega
    have u1 : Bm ((q + 1) * 2 ^ (m + 1)) = 3 ^ (m + 1) * Bm (q + 1) := by
      have := Bm_split (m + 1) (q + 1) 0 (Nat.pow_pos (by decide))
      rw [Bm_zero] at this
      simpa using this
    have u2 : Bm q + 1 ≤ Bm (q + 1) := Bm_lt q
    have u3 : 3 ^ (m + 1) * (Bm q + 1) ≤ 3 ^ (m + 1) * Bm (q + 1) := Nat.mul_le_mul_left _ u2
    have u4 : 3 ^ (m + 1) * (Bm q + 1) = 3 * (3 ^ m * Bm q) + 3 * 3 ^ m := by
      rw [Nat.pow_succ, Nat.mul_add, Nat.mul_one, Nat.mul_comm (3 ^ m) 3, Nat.mul_assoc]
    have two : 0 < 2 ^ (m + 1) := Nat.pow_pos (by decide)
    have w1 : Bm (q * 2 ^ (m + 1) + (2 ^ (m + 1) - 1)) = 3 ^ (m + 1) * Bm q + Bm (2 ^ (m + 1) - 1) := Bm_split (m + 1) q _ (by omega)
    have w2 := Bm_comp (m + 1) 0 two
    rw [Nat.sub_zero, Bm_zero] at w2
    have w3 : 3 ^ (m + 1) * Bm q = 3 * (3 ^ m * Bm q) := by
      rw [Nat.pow_succ, Nat.mul_comm (3 ^ m) 3, Nat.mul_assoc]
    have w4 : 3 ^ (m + 1) = 3 * 3 ^ m := by
      rw [Nat.pow_succ]
      omega
    have hlt : ∀ k, k < (q + 1) * 2 ^ (m + 1) → Bm k < x := fun k hk => by
      have hk2 : k ≤ q * 2 ^ (m + 1) + (2 ^ (m + 1) - 1) := by
        rw [Nat.add_mul, Nat.one_mul] at hk
        omega
      have := Bm_mono hk2
      omega
    refine ⟨(q + 1) * 2 ^ (m + 1), ?_, by omega, hlt, bound _ hlt⟩
    have hb := bound _ hlt
    have hq3 : q + 1 < 2 ^ 4000 := by
      have : (q + 1) * 1 ≤ (q + 1) * 2 ^ (m + 1) := Nat.mul_le_mul_left _ two
      exact Nat.lt_of_le_of_lt (by omega) (Nat.lt_of_le_of_lt hb (Nat.pow_lt_pow_right (by decide) (by decide)))
    have hm3 : 2 ^ (m + 1) < 2 ^ 4000 := Nat.pow_lt_pow_right (by decide) (by omega)
    have mu : mulI (.int ((q : Int) + 1)) (.int ((2 ^ (m + 1) : Nat) : Int)) = ok (.int (((q + 1) * 2 ^ (m + 1) : Nat) : Int)) := mulN (a := q + 1) hq3 hm3
    simp only [f_rank_of, b_rank_of, f_are_plain, b_are_plain, dIdx, dCutL, partNo, partAt, runP, runF, runI, sSeq, sSet, sRet, sRetF, sRetN, sIf, sAsg, sPar, sPar3, sExpr, sNil, sNever, sPub, sOwn, sApp, sPut, dBin, dVar, dC, dTst, dNot, dAnd, dOr, vAnd, vOr, vNot, dIf, dTup, dLst, aNil, aCons, dCall, dCallU, dCallK, dCallI, dIsi, dOwnIx, gNm, gTp, gsNil, gsCons, iR1, iEn, iLst, dListZip, dRep, ownL, ownD, putL, putD, pubS, bd_ok', v_add, v_sub, v_lt, v_le, v_gt, v_ge, v_is0, v_is1, v_eqI, v_neI, v_isII, v_isBI, List.map_cons, List.map_nil, List.cons_append, List.nil_append, List.append_nil, List.length_cons, List.length_nil, List.replicate, List.getElem?_cons_zero, List.getElem?_cons_succ, List.set_cons_zero, List.set_cons_succ, if_true, if_false, Nat.reduceAdd, Nat.reduceSub, Nat.reduceEqDiff, Bool.false_eq_true, Bool.not_true, Bool.not_false, decide_true, decide_false, and_self, v_ninAl, dNeg, dFld, fldD, dProp, dMake, sFldPut, setF, dDic0, dChain, sForO, iRA, e2, e4, c2, e6, ect, e7, ln, sb, e8, mu]
/-- the members around a number -/
theorem e_next (g : Nat) (h : g + 1 < 3 ^ 250) : ∃ n : Nat, f_next_base [.int g] = ok (.int (Bm n)) ∧ g < Bm n ∧ (∀ m, m < n → Bm m ≤ g) ∧ n ≤ 2 ^ 250 ∧ f_rank_of [.int (g + 1 : Nat)] = ok (.int n) := by
  obtain ⟨n, h1, h2, h3, h4⟩ := e_rank_any (g + 1) h
  refine ⟨n, ?_, h2, fun m hm => by have := h3 m hm; omega, h4, h1⟩
  have e1 := e_check g (by omega)
  have e2 : f_rank_of [.int ((g : Int) + 1)] = ok (.int n) := h1
  have e3 := e_member_at n (Nat.lt_of_le_of_lt h4 (Nat.pow_lt_pow_right (by decide) (by decide)))
  simp only [f_next_base, b_next_base, runP, runF, runI, sSeq, sSet, sRet, sRetF, sRetN, sIf, sAsg, sPar, sPar3, sExpr, sNil, sNever, sPub, sOwn, sApp, sPut, dBin, dVar, dC, dTst, dNot, dAnd, dOr, vAnd, vOr, vNot, dIf, dTup, dLst, aNil, aCons, dCall, dCallU, dCallK, dCallI, dIsi, dOwnIx, gNm, gTp, gsNil, gsCons, iR1, iEn, iLst, dListZip, dRep, ownL, ownD, putL, putD, pubS, bd_ok', v_add, v_sub, v_lt, v_le, v_gt, v_ge, v_is0, v_is1, v_eqI, v_neI, v_isII, v_isBI, List.map_cons, List.map_nil, List.cons_append, List.nil_append, List.append_nil, List.length_cons, List.length_nil, List.replicate, List.getElem?_cons_zero, List.getElem?_cons_succ, List.set_cons_zero, List.set_cons_succ, if_true, if_false, Nat.reduceAdd, Nat.reduceSub, Nat.reduceEqDiff, Bool.false_eq_true, Bool.not_true, Bool.not_false, decide_true, decide_false, and_self, v_ninAl, dNeg, dFld, fldD, dProp, dMake, sFldPut, setF, dDic0, dChain, sForO, iRA, e1, e2, e3]
theorem rank_one {x n m : Nat} (h1 : x ≤ Bm n) (h2 : ∀ k, k < n → Bm k < x) (h3 : x ≤ Bm m) (h4 : ∀ k, k < m → Bm k < x) : n = m := by
  rcases Nat.lt_trichotomy n m with c | c | c
  · have := h4 n c
    omega
  · exact c
  · have := h2 m c
    omega
theorem e_last (n : Nat) (h : Bm n + 1 < 3 ^ 250) : f_last_base [.int (Bm n)] = ok (.int (Bm n)) := by
  obtain ⟨r, h1, h2, h3, h4⟩ := e_rank_any (Bm n + 1) h
  have er : r = n + 1 := rank_one h2 h3 (Bm_lt n) fun k hk => by
    have := Bm_mono (show k ≤ n by omega)
    omega
  subst er
  have e1 := e_check (Bm n) (by omega)
  have e2 : f_rank_of [.int ((Bm n : Int) + 1)] = ok (.int ((n + 1 : Nat) : Int)) := h1
  have e3 : ((n + 1 : Nat) : Int) - 1 = (n : Int) := by omega
  have e4 := e_member_at n (Nat.lt_of_lt_of_le (show n < 2 ^ 250 by omega) (Nat.pow_le_pow_right (by decide) (by decide)))
  simp only [f_last_base, b_last_base, runP, runF, runI, sSeq, sSet, sRet, sRetF, sRetN, sIf, sAsg, sPar, sPar3, sExpr, sNil, sNever, sPub, sOwn, sApp, sPut, dBin, dVar, dC, dTst, dNot, dAnd, dOr, vAnd, vOr, vNot, dIf, dTup, dLst, aNil, aCons, dCall, dCallU, dCallK, dCallI, dIsi, dOwnIx, gNm, gTp, gsNil, gsCons, iR1, iEn, iLst, dListZip, dRep, ownL, ownD, putL, putD, pubS, bd_ok', v_add, v_sub, v_lt, v_le, v_gt, v_ge, v_is0, v_is1, v_eqI, v_neI, v_isII, v_isBI, List.map_cons, List.map_nil, List.cons_append, List.nil_append, List.append_nil, List.length_cons, List.length_nil, List.replicate, List.getElem?_cons_zero, List.getElem?_cons_succ, List.set_cons_zero, List.set_cons_succ, if_true, if_false, Nat.reduceAdd, Nat.reduceSub, Nat.reduceEqDiff, Bool.false_eq_true, Bool.not_true, Bool.not_false, decide_true, decide_false, and_self, v_ninAl, dNeg, dFld, fldD, dProp, dMake, sFldPut, setF, dDic0, dChain, sForO, iRA, e1, e2, e3, e4]
theorem e_rankB (n : Nat) (h : Bm n < 3 ^ 250) : f_base_rank [.int (Bm n)] = ok (.int n) := by
  obtain ⟨r, h1, h2, h3, h4⟩ := e_rank_any (Bm n) h
  have er : r = n := rank_one h2 h3 (Nat.le_refl _) fun k hk => Bm_strict hk
  subst er
  have e1 := e_check (Bm r) (by omega)
  simp only [f_base_rank, b_base_rank, runP, runF, runI, sSeq, sSet, sRet, sRetF, sRetN, sIf, sAsg, sPar, sPar3, sExpr, sNil, sNever, sPub, sOwn, sApp, sPut, dBin, dVar, dC, dTst, dNot, dAnd, dOr, vAnd, vOr, vNot, dIf, dTup, dLst, aNil, aCons, dCall, dCallU, dCallK, dCallI, dIsi, dOwnIx, gNm, gTp, gsNil, gsCons, iR1, iEn, iLst, dListZip, dRep, ownL, ownD, putL, putD, pubS, bd_ok', v_add, v_sub, v_lt, v_le, v_gt, v_ge, v_is0, v_is1, v_eqI, v_neI, v_isII, v_isBI, List.map_cons, List.map_nil, List.cons_append, List.nil_append, List.append_nil, List.length_cons, List.length_nil, List.replicate, List.getElem?_cons_zero, List.getElem?_cons_succ, List.set_cons_zero, List.set_cons_succ, if_true, if_false, Nat.reduceAdd, Nat.reduceSub, Nat.reduceEqDiff, Bool.false_eq_true, Bool.not_true, Bool.not_false, decide_true, decide_false, and_self, v_ninAl, dNeg, dFld, fldD, dProp, dMake, sFldPut, setF, dDic0, dChain, sForO, iRA, e1, h1]
/-! ### Ternary objects -/
abbrev tern (n : Nat) : D := .obj "Ternary" [.int n, .tup (iN (dg 3 n).reverse)]
theorem e_init (n : Nat) (h : n < 3 ^ 300) : f_Ternary_init (.obj "Ternary" []) [.int n] = ok (.non, tern n) := by
  have e1 := e_check n (by omega)
  have e2 : f_digits_in [.int n, .int 3] = _ := e_digits_in (r := 3) (by decide) (by decide) n h
  have e3 : tupleN [.lst (iN (dg 3 n).reverse)] = ok (.tup (iN (dg 3 n).reverse)) := by
    unfold tupleN
    rfl
  have t0 : (0 : Nat) < 1000 := by decide
  have t1 : (1 : Nat) < 1000 := by decide
  have z0 : ¬ (0 : Nat) < 0 := by decide
  have z1 : ¬ (1 : Nat) < 1 := by decide
  simp only [f_Ternary_init, b_Ternary_init, runP, runF, runI, sSeq, sSet, sRet, sRetF, sRetN, sIf, sAsg, sPar, sPar3, sExpr, sNil, sNever, sPub, sOwn, sApp, sPut, dBin, dVar, dC, dTst, dNot, dAnd, dOr, vAnd, vOr, vNot, dIf, dTup, dLst, aNil, aCons, dCall, dCallU, dCallK, dCallI, dIsi, dOwnIx, gNm, gTp, gsNil, gsCons, iR1, iEn, iLst, dListZip, dRep, ownL, ownD, putL, putD, pubS, bd_ok', v_add, v_sub, v_lt, v_le, v_gt, v_ge, v_is0, v_is1, v_eqI, v_neI, v_isII, v_isBI, List.map_cons, List.map_nil, List.cons_append, List.nil_append, List.append_nil, List.length_cons, List.length_nil, List.replicate, List.getElem?_cons_zero, List.getElem?_cons_succ, List.set_cons_zero, List.set_cons_succ, if_true, if_false, Nat.reduceAdd, Nat.reduceSub, Nat.reduceEqDiff, Bool.false_eq_true, Bool.not_true, Bool.not_false, decide_true, decide_false, and_self, v_ninAl, dNeg, dFld, fldD, dProp, dMake, sFldPut, setF, dDic0, dChain, sForO, iRA, e1, e2, e3, Nat.le_refl, true_and, and_true, t0, t1, z0, z1, Nat.zero_add]
theorem e_tdigits (n : Nat) : f_Ternary_digits [tern n] = ok (.tup (iN (dg 3 n).reverse)) := by
  simp only [f_Ternary_digits, b_Ternary_digits, tern, runP, runF, runI, sSeq, sSet, sRet, sRetF, sRetN, sIf, sAsg, sPar, sPar3, sExpr, sNil, sNever, sPub, sOwn, sApp, sPut, dBin, dVar, dC, dTst, dNot, dAnd, dOr, vAnd, vOr, vNot, dIf, dTup, dLst, aNil, aCons, dCall, dCallU, dCallK, dCallI, dIsi, dOwnIx, gNm, gTp, gsNil, gsCons, iR1, iEn, iLst, dListZip, dRep, ownL, ownD, putL, putD, pubS, bd_ok', v_add, v_sub, v_lt, v_le, v_gt, v_ge, v_is0, v_is1, v_eqI, v_neI, v_isII, v_isBI, List.map_cons, List.map_nil, List.cons_append, List.nil_append, List.append_nil, List.length_cons, List.length_nil, List.replicate, List.getElem?_cons_zero, List.getElem?_cons_succ, List.set_cons_zero, List.set_cons_succ, if_true, if_false, Nat.reduceAdd, Nat.reduceSub, Nat.reduceEqDiff, Bool.false_eq_true, Bool.not_true, Bool.not_false, decide_true, decide_false, and_self, v_ninAl, dNeg, dFld, fldD, dProp, dMake, sFldPut, setF, dDic0, dChain, sForO, iRA]
theorem e_tplain (n : Nat) : f_Ternary_is_plain [tern (Bm n)] = ok (.bl true) := by
  have hs : ∀ ds : List Nat, (iN ds).all D.scal = true := fun ds => by
    rw [List.all_eq_true]
    intro d hd
    obtain ⟨i, _, rfl⟩ := List.mem_map.mp hd
    rfl
  have e : ninA (.int 2) (.tup (iN (dg 3 (Bm n)).reverse)) = ok (.bl true) := by
    unfold ninA
    dsimp only
    rw [if_pos ⟨rfl, hs _⟩, pys_i, D.py, any_i, decide_eq_false (no2 n)]
    rfl
  simp only [f_Ternary_is_plain, b_Ternary_is_plain, f_are_plain, b_are_plain, tern, runP, runF, runI, sSeq, sSet, sRet, sRetF, sRetN, sIf, sAsg, sPar, sPar3, sExpr, sNil, sNever, sPub, sOwn, sApp, sPut, dBin, dVar, dC, dTst, dNot, dAnd, dOr, vAnd, vOr, vNot, dIf, dTup, dLst, aNil, aCons, dCall, dCallU, dCallK, dCallI, dIsi, dOwnIx, gNm, gTp, gsNil, gsCons, iR1, iEn, iLst, dListZip, dRep, ownL, ownD, putL, putD, pubS, bd_ok', v_add, v_sub, v_lt, v_le, v_gt, v_ge, v_is0, v_is1, v_eqI, v_neI, v_isII, v_isBI, List.map_cons, List.map_nil, List.cons_append, List.nil_append, List.append_nil, List.length_cons, List.length_nil, List.replicate, List.getElem?_cons_zero, List.getElem?_cons_succ, List.set_cons_zero, List.set_cons_succ, if_true, if_false, Nat.reduceAdd, Nat.reduceSub, Nat.reduceEqDiff, Bool.false_eq_true, Bool.not_true, Bool.not_false, decide_true, decide_false, and_self, v_ninAl, dNeg, dFld, fldD, dProp, dMake, sFldPut, setF, dDic0, dChain, sForO, iRA, e]
/-! ### the greedy sequence -/
theorem hasK_put (k k0 : L2.Key) (d : D) (ks : List L2.Key) (ds : List D) : hasK k (putKs k0 d ks ds).1 = (hasK k ks || decide (k0 = k)) := by
  unfold putKs
  by_cases c : hasK k0 ks = true
  · rw [if_pos c]
    dsimp only
    by_cases e : k0 = k
    · subst e
      rw [c]
      rfl
    · rw [decide_eq_false e, Bool.or_false]
  · rw [if_neg c]
    dsimp only
    unfold hasK
    rw [List.any_append]
    simp
theorem len_put (k0 : L2.Key) (d : D) (ks : List L2.Key) (ds : List D) : (putKs k0 d ks ds).1.length ≤ ks.length + 1 := by
  unfold putKs
  split
  · exact Nat.le_succ _
  · rw [List.length_append]
    exact Nat.le_refl _
def Cov (ks : List L2.Key) (m : Nat) : Prop := ∀ k : Nat, hasK (.inl (k : Int)) ks = m.testBit k
def putG (n m l : Nat) : Nat := if l ≤ 2 * n then m ||| 2 ^ (2 * n - l) else m
theorem Cov.put {ks : List L2.Key} {m : Nat} (h : Cov ks m) (n l : Nat) (d : D) (ds : List D) : Cov (putKs (.inl (2 * (n : Int) - l)) d ks ds).1 (putG n m l) := by
  intro k
  rw [hasK_put, h k]
  unfold putG
  split
  · next c =>
    rw [Nat.testBit_or, Nat.testBit_two_pow]
    congr 1
    by_cases e : 2 * n - l = k
    · rw [decide_eq_true e, decide_eq_true]
      congr 1
      omega
    · rw [decide_eq_false e, decide_eq_false]
      intro z
      have := Sum.inl.inj z
      omega
  · next c =>
    rw [decide_eq_false, Bool.or_false]
    intro z
    have := Sum.inl.inj z
    omega
def stepG (n : Nat) (f : List Nat) (m : Nat) : List Nat × Nat :=
  let f' := if f.getLastD 0 < n ∧ m.testBit n = false then f ++ [n] else f
  (f', if n ∈ f' then f'.foldl (putG n) m else m)
def runG (st : List Nat) : Nat → List Nat × Nat
  | 0 => (st, 0)
  | k + 1 => stepG k (runG st k).1 (runG st k).2
theorem atI_last {f : List Nat} (h : f ≠ []) : L2.atI (iN f) (-1) = some (.int (f.getLastD 0 : Nat)) := by
  obtain ⟨g, l, rfl⟩ : ∃ g l, f = g ++ [l] := ⟨f.dropLast, f.getLast h, (List.dropLast_concat_getLast h).symm⟩
  have hl : (iN (g ++ [l])).length = g.length + 1 := by simp
  unfold L2.atI
  have e : L2.ixN (iN (g ++ [l])).length (-1) = some g.length := by
    rw [hl]
    unfold L2.ixN
    simp
    omega
  rw [e]
  simp
theorem forO_go {i : Nat} {T : D → S → M S} {F : S → M Out} (P : Nat → S → Prop) (ds : List D) (hP : ∀ j s, P j s → ownL s[i]? = some ds) (step : ∀ j d s, ds[j]? = some d → P j s → ∃ s1 s2, T d s = ok s1 ∧ F s1 = ok (.nx s2) ∧ P (j + 1) s2) :
    ∀ (k j : Nat) (s : S), j + k = ds.length → P j s → ∃ s', forO i ds.length T F k s = ok (.nx s') ∧ P ds.length s'
  | 0, j, s, e, h => by
    refine ⟨s, ?_, by rw [← e]; exact h⟩
    rw [forO, hP j s h]
    dsimp only
    rw [if_pos rfl]
  | k + 1, j, s, e, h => by
    have hj : j < ds.length := by omega
    have hd : ds[j]? = some ds[j] := List.getElem?_eq_getElem hj
    obtain ⟨s1, s2, h1, h2, h3⟩ := step j ds[j] s hd h
    obtain ⟨s', e', p⟩ := forO_go P ds hP step k (j + 1) s2 (by omega) h3
    refine ⟨s', ?_, p⟩
    rw [forO, hP j s h]
    dsimp only
    rw [if_pos rfl, show ds.length - (k + 1) = j by omega, hd]
    dsimp only
    rw [h1, bd_ok', h2, bd_ok']
    exact e'
abbrev gS (a b x4 x5 : Sl) (f : List Nat) (ks : List L2.Key) (ds : List D) : S := [a, b, .own (.lst (iN f)), .own (.dic ks ds), x4, x5]
theorem g_inner (a b x5 : Sl) (n : Nat) (f : List Nat) (ks : List L2.Key) (ds : List D) (m : Nat) (hc : Cov ks m) (hl : ks.length + f.length ≤ 2 ^ 23) :
    ∃ y ks' ds', sForO 2 (gNm 5) (sDPut 3 (dBin subI (dBin mulI (dC (.int 2)) (dVar 4)) (dVar 5)) (dC (.bl true))) (gS a b (.val (.int n)) x5 f ks ds) = ok (.nx (gS a b (.val (.int n)) y f ks' ds')) ∧ Cov ks' (f.foldl (putG n) m) ∧ ks'.length ≤ ks.length + f.length := by
  have m2 := fun i : Int => v_mulL (j := i) (show -(2 ^ 64) < (2 : Int) by decide) (show (2 : Int) < 2 ^ 64 by decide)
  obtain ⟨s', e, y, ks', ds', rfl, h1, h2⟩ := forO_go (i := 2) (T := gNm 5) (F := sDPut 3 (dBin subI (dBin mulI (dC (.int 2)) (dVar 4)) (dVar 5)) (dC (.bl true)))
    (fun j s => ∃ y ks' ds', s = gS a b (.val (.int n)) y f ks' ds' ∧ Cov ks' ((f.take j).foldl (putG n) m) ∧ ks'.length ≤ ks.length + j) (iN f) (by
      rintro j s ⟨y, ks', ds', rfl, _, _⟩
      rfl) (by
      rintro j d s hd ⟨y, ks', ds', rfl, h1, h2⟩
      rw [List.getElem?_map, List.getElem?_map] at hd
      cases q : f[j]? with
      | none =>
        rw [q] at hd
        cases hd
      | some l =>
        rw [q] at hd
        cases hd
        have hj : j < f.length := (List.getElem?_eq_some_iff.mp q).1
        have hsz : ks'.length < sizeLine := by
          show _ < 2 ^ 24
          omega
        refine ⟨gS a b (.val (.int n)) (.val (.int l)) f ks' ds', gS a b (.val (.int n)) (.val (.int l)) f (putKs (.inl (2 * (n : Int) - l)) (.bl true) ks' ds').1 (putKs (.inl (2 * (n : Int) - l)) (.bl true) ks' ds').2, rfl, ?_, _, _, _, rfl, ?_, ?_⟩
        · simp only [sDPut, gS, kD, runP, runF, runI, sSeq, sSet, sRet, sRetF, sRetN, sIf, sAsg, sPar, sPar3, sExpr, sNil, sNever, sPub, sOwn, sApp, sPut, dBin, dVar, dC, dTst, dNot, dAnd, dOr, vAnd, vOr, vNot, dIf, dTup, dLst, aNil, aCons, dCall, dCallU, dCallK, dCallI, dIsi, dOwnIx, gNm, gTp, gsNil, gsCons, iR1, iEn, iLst, dListZip, dRep, ownL, ownD, putL, putD, pubS, bd_ok', v_add, v_sub, v_lt, v_le, v_gt, v_ge, v_is0, v_is1, v_eqI, v_neI, v_isII, v_isBI, List.map_cons, List.map_nil, List.cons_append, List.nil_append, List.append_nil, List.length_cons, List.length_nil, List.replicate, List.getElem?_cons_zero, List.getElem?_cons_succ, List.set_cons_zero, List.set_cons_succ, if_true, if_false, Nat.reduceAdd, Nat.reduceSub, Nat.reduceEqDiff, Bool.false_eq_true, Bool.not_true, Bool.not_false, decide_true, decide_false, and_self, v_ninAl, dNeg, dFld, fldD, dProp, dMake, sFldPut, setF, dDic0, dChain, sForO, iRA, m2, hsz]
        · rw [List.take_succ, q, List.foldl_append]
          exact h1.put n l _ _
        · have := len_put (.inl (2 * (n : Int) - l)) (.bl true) ks' ds'
          omega) (iN f).length 0 (gS a b (.val (.int n)) x5 f ks ds) (by omega) ⟨x5, ks, ds, rfl, hc, Nat.le_refl _⟩
  have hlen : (iN f).length = f.length := by simp
  rw [hlen] at h1 h2
  rw [List.take_length] at h1
  refine ⟨y, ks', ds', ?_, h1, h2⟩
  have e0 : ownL (gS a b (.val (.int n)) x5 f ks ds)[2]? = some (iN f) := rfl
  unfold sForO
  rw [e0]
  exact e
theorem g_step (a b x4 x5 : Sl) (n : Nat) (f : List Nat) (ks : List L2.Key) (ds : List D) (m : Nat) (hf : f ≠ []) (hc : Cov ks m) (hl : ks.length + f.length + 1 ≤ 2 ^ 23) :
    ∃ y ks' ds', (sSeq (sIf (dAnd (dTst (dBin gtI (dVar 4) (dOwnIx 2 (dNeg (dC (.int 1)))))) (dTst (dNinDic 3 (dVar 4)))) (sApp 2 (dVar 4)) sNil)
      (sIf (tView (dTst (dBin inD (dVar 4) (dVar 2)))) (sForO 2 (gNm 5) (sDPut 3 (dBin subI (dBin mulI (dC (.int 2)) (dVar 4)) (dVar 5)) (dC (.bl true)))) sNil)) (gS a b (.val (.int n)) x5 f ks ds)
      = ok (.nx (gS a b (.val (.int n)) y (stepG n f m).1 ks' ds')) ∧ Cov ks' (stepG n f m).2 ∧ ks'.length ≤ ks.length + f.length + 1 := by
  have e1 : (sIf (dAnd (dTst (dBin gtI (dVar 4) (dOwnIx 2 (dNeg (dC (.int 1)))))) (dTst (dNinDic 3 (dVar 4)))) (sApp 2 (dVar 4)) sNil) (gS a b (.val (.int n)) x5 f ks ds) = ok (.nx (gS a b (.val (.int n)) x5 (stepG n f m).1 ks ds)) := by
    have hlast := atI_last hf
    have hn := hc n
    have lt : (iN f).length < sizeLine := by
      rw [List.length_map, List.length_map]
      show _ < 2 ^ 24
      omega
    have app : iN f ++ [.int (n : Int)] = iN (f ++ [n]) := by simp
    unfold stepG
    by_cases c1 : f.getLastD 0 < n
    · have c1' : ((f.getLastD 0 : Nat) : Int) < (n : Int) := by omega
      cases c2 : m.testBit n with
      | false =>
        rw [if_pos ⟨c1, rfl⟩]
        show _ = ok (Out.nx [a, b, .own (.lst (iN (f ++ [n]))), .own (.dic ks ds), .val (.int n), x5])
        rw [← app]
        simp only [dNinDic, kD, gS, runP, runF, runI, sSeq, sSet, sRet, sRetF, sRetN, sIf, sAsg, sPar, sPar3, sExpr, sNil, sNever, sPub, sOwn, sApp, sPut, dBin, dVar, dC, dTst, dNot, dAnd, dOr, vAnd, vOr, vNot, dIf, dTup, dLst, aNil, aCons, dCall, dCallU, dCallK, dCallI, dIsi, dOwnIx, gNm, gTp, gsNil, gsCons, iR1, iEn, iLst, dListZip, dRep, ownL, ownD, putL, putD, pubS, bd_ok', v_add, v_sub, v_lt, v_le, v_gt, v_ge, v_is0, v_is1, v_eqI, v_neI, v_isII, v_isBI, List.map_cons, List.map_nil, List.cons_append, List.nil_append, List.append_nil, List.length_cons, List.length_nil, List.replicate, List.getElem?_cons_zero, List.getElem?_cons_succ, List.set_cons_zero, List.set_cons_succ, if_true, if_false, Nat.reduceAdd, Nat.reduceSub, Nat.reduceEqDiff, Bool.false_eq_true, Bool.not_true, Bool.not_false, decide_true, decide_false, and_self, v_ninAl, dNeg, dFld, fldD, dProp, dMake, sFldPut, setF, dDic0, dChain, sForO, iRA, hlast, hn, c1', c2, lt]
      | true =>
        rw [if_neg (fun z => by cases z.2)]
        simp only [dNinDic, kD, gS, runP, runF, runI, sSeq, sSet, sRet, sRetF, sRetN, sIf, sAsg, sPar, sPar3, sExpr, sNil, sNever, sPub, sOwn, sApp, sPut, dBin, dVar, dC, dTst, dNot, dAnd, dOr, vAnd, vOr, vNot, dIf, dTup, dLst, aNil, aCons, dCall, dCallU, dCallK, dCallI, dIsi, dOwnIx, gNm, gTp, gsNil, gsCons, iR1, iEn, iLst, dListZip, dRep, ownL, ownD, putL, putD, pubS, bd_ok', v_add, v_sub, v_lt, v_le, v_gt, v_ge, v_is0, v_is1, v_eqI, v_neI, v_isII, v_isBI, List.map_cons, List.map_nil, List.cons_append, List.nil_append, List.append_nil, List.length_cons, List.length_nil, List.replicate, List.getElem?_cons_zero, List.getElem?_cons_succ, List.set_cons_zero, List.set_cons_succ, if_true, if_false, Nat.reduceAdd, Nat.reduceSub, Nat.reduceEqDiff, Bool.false_eq_true, Bool.not_true, Bool.not_false, decide_true, decide_false, and_self, v_ninAl, dNeg, dFld, fldD, dProp, dMake, sFldPut, setF, dDic0, dChain, sForO, iRA, hlast, hn, c1', c2]
    · have c1' : ¬ ((f.getLastD 0 : Nat) : Int) < (n : Int) := by omega
      rw [if_neg (fun z => c1 z.1)]
      simp only [dNinDic, kD, gS, runP, runF, runI, sSeq, sSet, sRet, sRetF, sRetN, sIf, sAsg, sPar, sPar3, sExpr, sNil, sNever, sPub, sOwn, sApp, sPut, dBin, dVar, dC, dTst, dNot, dAnd, dOr, vAnd, vOr, vNot, dIf, dTup, dLst, aNil, aCons, dCall, dCallU, dCallK, dCallI, dIsi, dOwnIx, gNm, gTp, gsNil, gsCons, iR1, iEn, iLst, dListZip, dRep, ownL, ownD, putL, putD, pubS, bd_ok', v_add, v_sub, v_lt, v_le, v_gt, v_ge, v_is0, v_is1, v_eqI, v_neI, v_isII, v_isBI, List.map_cons, List.map_nil, List.cons_append, List.nil_append, List.append_nil, List.length_cons, List.length_nil, List.replicate, List.getElem?_cons_zero, List.getElem?_cons_succ, List.set_cons_zero, List.set_cons_succ, if_true, if_false, Nat.reduceAdd, Nat.reduceSub, Nat.reduceEqDiff, Bool.false_eq_true, Bool.not_true, Bool.not_false, decide_true, decide_false, and_self, v_ninAl, dNeg, dFld, fldD, dProp, dMake, sFldPut, setF, dDic0, dChain, sForO, iRA, hlast, c1']
  have fl : (stepG n f m).1.length ≤ f.length + 1 := by
    unfold stepG
    dsimp only
    split
    · rw [List.length_append]
      exact Nat.le_refl _
    · exact Nat.le_succ _
  have ein := v_inL n ((stepG n f m).1.map fun (j : Nat) => (j : Int))
  rw [show sSeq _ _ (gS a b (.val (.int n)) x5 f ks ds) = bd ((sIf (dAnd (dTst (dBin gtI (dVar 4) (dOwnIx 2 (dNeg (dC (.int 1)))))) (dTst (dNinDic 3 (dVar 4)))) (sApp 2 (dVar 4)) sNil) (gS a b (.val (.int n)) x5 f ks ds)) _ from rfl, e1, bd_ok']
  dsimp only
  by_cases c : n ∈ (stepG n f m).1
  · have c' : (n : Int) ∈ ((stepG n f m).1.map fun (j : Nat) => (j : Int)) := mem_iN.mpr c
    obtain ⟨y, ks', ds', h1, h2, h3⟩ := g_inner a b x5 n (stepG n f m).1 ks ds m hc (by omega)
    have h4 : (stepG n f m).2 = (stepG n f m).1.foldl (putG n) m := by
      show (if n ∈ (stepG n f m).1 then _ else _) = _
      rw [if_pos c]
      rfl
    rw [h4]
    refine ⟨y, ks', ds', ?_, h2, by omega⟩
    unfold sIf tView viewS
    simp only [gS, runP, runF, runI, sSeq, sSet, sRet, sRetF, sRetN, sIf, sAsg, sPar, sPar3, sExpr, sNil, sNever, sPub, sOwn, sApp, sPut, dBin, dVar, dC, dTst, dNot, dAnd, dOr, vAnd, vOr, vNot, dIf, dTup, dLst, aNil, aCons, dCall, dCallU, dCallK, dCallI, dIsi, dOwnIx, gNm, gTp, gsNil, gsCons, iR1, iEn, iLst, dListZip, dRep, ownL, ownD, putL, putD, pubS, bd_ok', v_add, v_sub, v_lt, v_le, v_gt, v_ge, v_is0, v_is1, v_eqI, v_neI, v_isII, v_isBI, List.map_cons, List.map_nil, List.cons_append, List.nil_append, List.append_nil, List.length_cons, List.length_nil, List.replicate, List.getElem?_cons_zero, List.getElem?_cons_succ, List.set_cons_zero, List.set_cons_succ, if_true, if_false, Nat.reduceAdd, Nat.reduceSub, Nat.reduceEqDiff, Bool.false_eq_true, Bool.not_true, Bool.not_false, decide_true, decide_false, and_self, v_ninAl, dNeg, dFld, fldD, dProp, dMake, sFldPut, setF, dDic0, dChain, sForO, iRA, ein, c']
    exact h1
  · have c' : ¬ (n : Int) ∈ ((stepG n f m).1.map fun (j : Nat) => (j : Int)) := fun z => c (mem_iN.mp z)
    have h4 : (stepG n f m).2 = m := by
      show (if n ∈ (stepG n f m).1 then _ else _) = _
      rw [if_neg c]
    rw [h4]
    refine ⟨x5, ks, ds, ?_, hc, by omega⟩
    unfold sIf tView viewS
    simp only [gS, runP, runF, runI, sSeq, sSet, sRet, sRetF, sRetN, sIf, sAsg, sPar, sPar3, sExpr, sNil, sNever, sPub, sOwn, sApp, sPut, dBin, dVar, dC, dTst, dNot, dAnd, dOr, vAnd, vOr, vNot, dIf, dTup, dLst, aNil, aCons, dCall, dCallU, dCallK, dCallI, dIsi, dOwnIx, gNm, gTp, gsNil, gsCons, iR1, iEn, iLst, dListZip, dRep, ownL, ownD, putL, putD, pubS, bd_ok', v_add, v_sub, v_lt, v_le, v_gt, v_ge, v_is0, v_is1, v_eqI, v_neI, v_isII, v_isBI, List.map_cons, List.map_nil, List.cons_append, List.nil_append, List.append_nil, List.length_cons, List.length_nil, List.replicate, List.getElem?_cons_zero, List.getElem?_cons_succ, List.set_cons_zero, List.set_cons_succ, if_true, if_false, Nat.reduceAdd, Nat.reduceSub, Nat.reduceEqDiff, Bool.false_eq_true, Bool.not_true, Bool.not_false, decide_true, decide_false, and_self, v_ninAl, dNeg, dFld, fldD, dProp, dMake, sFldPut, setF, dDic0, dChain, sForO, iRA, ein, c']
def pf : Nat → Nat → Bool
  | 0, _ => true
  | k + 1, n => (n % 3 != 2) && pf k (n / 3)
theorem pf_ok : ∀ (k n : Nat), n < 3 ^ k → (pf k n = true ↔ pl n)
  | 0, n, h => by
    have : n = 0 := by omega
    subst this
    exact ⟨fun _ => pl_zero, fun _ => rfl⟩
  | k + 1, n, h => by
    have ih := pf_ok k (n / 3) (by rw [Nat.pow_succ] at h; omega)
    rw [pl_iff, pf, Bool.and_eq_true, ih]
    simp
theorem runG_ne (st : List Nat) (h : st ≠ []) : ∀ k : Nat, (runG st k).1 ≠ [] ∧ (runG st k).1.length ≤ st.length + k
  | 0 => ⟨h, Nat.le_refl _⟩
  | k + 1 => by
    obtain ⟨h1, h2⟩ := runG_ne st h k
    show (stepG k (runG st k).1 (runG st k).2).1 ≠ [] ∧ (stepG k (runG st k).1 (runG st k).2).1.length ≤ _
    unfold stepG
    dsimp only
    split
    · exact ⟨by simp, by rw [List.length_append, List.length_singleton]; omega⟩
    · exact ⟨h1, by omega⟩
theorem e_greedy (st : List Nat) (h : st ≠ []) (hl : st.length ≤ 2) : f__law_greedy [.lst (iN st), .int 300] = ok (.lst (iN (runG st 301).1)) := by
  have e1 : listN [.lst (iN st)] = ok (.lst (iN st)) := rfl
  have hr : rngOk (301 : Int) := by decide
  have er : rangeD 0 (301 : Int).toNat = iN (List.range 301) := rangeD_iN 301
  obtain ⟨s', eL, x4, x5, ks, ds, rfl, h1, h2⟩ := forL_inv (T := gNm 4) (F := sSeq (sIf (dAnd (dTst (dBin gtI (dVar 4) (dOwnIx 2 (dNeg (dC (.int 1)))))) (dTst (dNinDic 3 (dVar 4)))) (sApp 2 (dVar 4)) sNil)
      (sIf (tView (dTst (dBin inD (dVar 4) (dVar 2)))) (sForO 2 (gNm 5) (sDPut 3 (dBin subI (dBin mulI (dC (.int 2)) (dVar 4)) (dVar 5)) (dC (.bl true)))) sNil))
    (fun i s => ∃ x4 x5 ks ds, s = gS (.val (.lst (iN st))) (.val (.int 300)) x4 x5 (runG st i).1 ks ds ∧ Cov ks (runG st i).2 ∧ ks.length ≤ 400 * i) (iN (List.range 301)) 0 (gS (.val (.lst (iN st))) (.val (.int 300)) .un .un st [] []) ⟨.un, .un, [], [], rfl, fun k => by
      rw [show (runG st 0).2 = 0 from rfl, Nat.zero_testBit]
      rfl, Nat.le_refl _⟩ (by
      rintro i d s hi ⟨x4, x5, ks, ds, rfl, h1, h2⟩
      rw [List.getElem?_map, List.getElem?_map] at hi
      have hik : i < 301 := by
        by_cases c : i < 301
        · exact c
        · rw [List.getElem?_eq_none (by simpa using c)] at hi
          cases hi
      rw [List.getElem?_range hik] at hi
      cases hi
      rw [Nat.zero_add] at h1 h2 ⊢
      obtain ⟨g1, g2⟩ := runG_ne st h i
      obtain ⟨y, ks', ds', e, c1, c2⟩ := g_step (.val (.lst (iN st))) (.val (.int 300)) x4 x5 i (runG st i).1 ks ds (runG st i).2 g1 h1 (by omega)
      exact ⟨_, _, rfl, e, _, _, ks', ds', rfl, c1, by omega⟩)
  rw [Nat.zero_add] at eL
  have lr : (iN (List.range 301)).length = 301 := by simp
  rw [lr] at eL
  have eL : forL _ _ _ [.val (.lst (iN st)), .val (.int 300), .own (.lst (iN st)), .own (.dic [] []), .un, .un] = _ := eL
  have t1 : (300 : Int) + 1 = 301 := rfl
  simp only [f__law_greedy, b__law_greedy, sFor, gS, runP, runF, runI, sSeq, sSet, sRet, sRetF, sRetN, sIf, sAsg, sPar, sPar3, sExpr, sNil, sNever, sPub, sOwn, sApp, sPut, dBin, dVar, dC, dTst, dNot, dAnd, dOr, vAnd, vOr, vNot, dIf, dTup, dLst, aNil, aCons, dCall, dCallU, dCallK, dCallI, dIsi, dOwnIx, gNm, gTp, gsNil, gsCons, iR1, iEn, iLst, dListZip, dRep, ownL, ownD, putL, putD, pubS, bd_ok', v_add, v_sub, v_lt, v_le, v_gt, v_ge, v_is0, v_is1, v_eqI, v_neI, v_isII, v_isBI, List.map_cons, List.map_nil, List.cons_append, List.nil_append, List.append_nil, List.length_cons, List.length_nil, List.replicate, List.getElem?_cons_zero, List.getElem?_cons_succ, List.set_cons_zero, List.set_cons_succ, if_true, if_false, Nat.reduceAdd, Nat.reduceSub, Nat.reduceEqDiff, Bool.false_eq_true, Bool.not_true, Bool.not_false, decide_true, decide_false, and_self, v_ninAl, dNeg, dFld, fldD, dProp, dMake, sFldPut, setF, dDic0, dChain, sForO, iRA, e1, t1, hr, er, eL]
theorem comp_fil (v : Nat) (ft : S → M (Bool × S)) (p : Nat → Bool) (s0 : S) (hs : ∀ x, (s0.set v x).set v .un = s0) (hg : ∀ x, (s0.set v x)[v]? = some x) : ∀ ns : List Nat, (∀ k ∈ ns, ft (s0.set v (.val (.int k))) = ok (p k, s0.set v (.val (.int k)))) →
    compL [v] (gNm v) ft (dVar v) (iN ns) s0 = ok (iN (ns.filter p), s0)
  | [], _ => rfl
  | n :: ns, hf => by
    have ih := comp_fil v ft p s0 hs hg ns fun k hk => hf k (List.mem_cons_of_mem _ hk)
    have e := hf n (List.mem_cons_self ..)
    have ev : dVar v (s0.set v (.val (.int (n : Int)))) = ok (.int n, s0.set v (.val (.int n))) := by
      unfold dVar
      rw [hg]
    show bd (ok (s0.set v (.val (.int n)))) _ = _
    rw [bd_ok']
    show bd (ft (s0.set v (.val (.int n)))) _ = _
    rw [e, bd_ok', List.filter_cons]
    cases p n with
    | true =>
      show bd (dVar v (s0.set v (.val (.int n)))) _ = _
      rw [ev, bd_ok']
      show bd (compL [v] (gNm v) ft (dVar v) (iN ns) ((s0.set v (.val (.int n))).set v .un)) _ = _
      rw [hs, ih]
      rfl
    | false =>
      show compL [v] (gNm v) ft (dVar v) (iN ns) ((s0.set v (.val (.int n))).set v .un) = _
      rw [hs, ih]
      rfl
theorem comp_none (v : Nat) (ft : S → M (Bool × S)) (fe : S → M (D × S)) (s0 : S) (hs : ∀ x, (s0.set v x).set v .un = s0) : ∀ ds : List D, (∀ d ∈ ds, ft (s0.set v (.val d)) = ok (false, s0.set v (.val d))) → compL [v] (gNm v) ft fe ds s0 = ok ([], s0)
  | [], _ => rfl
  | d :: ds, hf => by
    have ih := comp_none v ft fe s0 hs ds fun k hk => hf k (List.mem_cons_of_mem _ hk)
    have e := hf d (List.mem_cons_self ..)
    show bd (ok (s0.set v (.val d))) _ = _
    rw [bd_ok']
    show bd (ft (s0.set v (.val d))) _ = _
    rw [e, bd_ok']
    show compL [v] (gNm v) ft fe ds ((s0.set v (.val d)).set v .un) = _
    rw [hs, ih]
def P300 : List Nat := (List.range 301).filter (pf 6)
theorem P300_mem {n : Nat} : n ∈ P300 ↔ n < 301 ∧ pl n := by
  unfold P300
  rw [List.mem_filter, List.mem_range]
  constructor
  · rintro ⟨h1, h2⟩
    exact ⟨h1, (pf_ok 6 n (by omega)).mp h2⟩
  · rintro ⟨h1, h2⟩
    exact ⟨h1, (pf_ok 6 n (by omega)).mpr h2⟩
theorem G0 : (runG [0] 301).1 = P300 := by decide +kernel
theorem G1 : (runG [0, 1] 301).1 = P300 := by decide +kernel
theorem P300_Bk : P300 = (List.range 48).map (Bk 6) := by decide +kernel
theorem P300_Bm : P300 = (List.range 48).map Bm := by
  rw [P300_Bk]
  exact List.map_congr_left fun n hn => Bk_eq 6 n (by have := List.mem_range.mp hn; omega)
theorem P300_len : P300.length = 48 := by rw [P300_Bk]; simp
theorem v_eqB (a b : Bool) : eqD (.bl a) (.bl b) = ok (.bl (a == b)) := by
  unfold eqD
  simp only [D.plain, D.py, SeqAt.shaped, Bool.and_self, if_true]
  congr
theorem s300 {n : Nat} (h : n < 301) : n < 3 ^ 300 := Nat.lt_of_lt_of_le h (Nat.le_trans (show 301 ≤ 3 ^ 6 by decide) (Nat.pow_le_pow_right (by decide) (by decide)))
theorem e_first : f__law_first_right [] = ok (.bl true) := by
  have hr : rngOk (301 : Int) := by decide
  have er : rangeD 0 (301 : Int).toNat = iN (List.range 301) := rangeD_iN 301
  have hr2 : rngOk (48 : Int) := by decide
  have er2 : rangeD 0 (48 : Int).toNat = iN (List.range 48) := rangeD_iN 48
  have c1 := comp_fil 1 (dTst (dCallU 1 f_in_base [] (aCons (dVar 1) aNil))) (pf 6) [.un, .un, .un, .un, .un] (fun _ => rfl) (fun _ => rfl) (List.range 301) fun k hk => by
    have hk := List.mem_range.mp hk
    have e := e_in_base k (s300 hk)
    have d : decide (pl k) = pf 6 k := by
      rw [Bool.eq_iff_iff, decide_eq_true_iff]
      exact (pf_ok 6 k (by omega)).symm
    rw [d] at e
    simp only [runP, runF, runI, sSeq, sSet, sRet, sRetF, sRetN, sIf, sAsg, sPar, sPar3, sExpr, sNil, sNever, sPub, sOwn, sApp, sPut, dBin, dVar, dC, dTst, dNot, dAnd, dOr, vAnd, vOr, vNot, dIf, dTup, dLst, aNil, aCons, dCall, dCallU, dCallK, dCallI, dIsi, dOwnIx, gNm, gTp, gsNil, gsCons, iR1, iEn, iLst, dListZip, dRep, ownL, ownD, putL, putD, pubS, bd_ok', v_add, v_sub, v_lt, v_le, v_gt, v_ge, v_is0, v_is1, v_eqI, v_neI, v_isII, v_isBI, List.map_cons, List.map_nil, List.cons_append, List.nil_append, List.append_nil, List.length_cons, List.length_nil, List.replicate, List.getElem?_cons_zero, List.getElem?_cons_succ, List.set_cons_zero, List.set_cons_succ, if_true, if_false, Nat.reduceAdd, Nat.reduceSub, Nat.reduceEqDiff, Bool.false_eq_true, Bool.not_true, Bool.not_false, decide_true, decide_false, and_self, v_ninAl, dNeg, dFld, fldD, dProp, dMake, sFldPut, setF, dDic0, dChain, sForO, iRA, e]
  have c1 : compL _ _ _ _ _ _ = ok (iN P300, _) := c1
  have g0 : f__law_greedy [.lst [.int 0], .int 300] = ok (.lst (iN P300)) := by
    have := e_greedy [0] (by decide) (by decide)
    rw [G0] at this
    exact this
  have g1 : f__law_greedy [.lst [.int 0, .int 1], .int 300] = ok (.lst (iN P300)) := by
    have := e_greedy [0, 1] (by decide) (by decide)
    rw [G1] at this
    exact this
  have ne := v_neL (P300.map fun (j : Nat) => (j : Int)) (P300.map fun (j : Nat) => (j : Int))
  have ln : lenN [.lst (iN P300)] = ok (.int 48) := by
    unfold lenN
    dsimp only
    rw [List.length_map, List.length_map, P300_len]
    rfl
  have c2 := comp_all 2 (dCallU 1 f_base_member [] (aCons (dVar 2) aNil)) Bm [.val (.lst (iN P300)), .un, .un, .un, .un] (fun _ => rfl) (List.range 48) fun k hk => by
    have hk := List.mem_range.mp hk
    have e := e_member k (Nat.lt_of_lt_of_le hk (Nat.le_trans (show 48 ≤ 2 ^ 6 by decide) (Nat.pow_le_pow_right (by decide) (by decide))))
    simp only [runP, runF, runI, sSeq, sSet, sRet, sRetF, sRetN, sIf, sAsg, sPar, sPar3, sExpr, sNil, sNever, sPub, sOwn, sApp, sPut, dBin, dVar, dC, dTst, dNot, dAnd, dOr, vAnd, vOr, vNot, dIf, dTup, dLst, aNil, aCons, dCall, dCallU, dCallK, dCallI, dIsi, dOwnIx, gNm, gTp, gsNil, gsCons, iR1, iEn, iLst, dListZip, dRep, ownL, ownD, putL, putD, pubS, bd_ok', v_add, v_sub, v_lt, v_le, v_gt, v_ge, v_is0, v_is1, v_eqI, v_neI, v_isII, v_isBI, List.map_cons, List.map_nil, List.cons_append, List.nil_append, List.append_nil, List.length_cons, List.length_nil, List.replicate, List.getElem?_cons_zero, List.getElem?_cons_succ, List.set_cons_zero, List.set_cons_succ, if_true, if_false, Nat.reduceAdd, Nat.reduceSub, Nat.reduceEqDiff, Bool.false_eq_true, Bool.not_true, Bool.not_false, decide_true, decide_false, and_self, v_ninAl, dNeg, dFld, fldD, dProp, dMake, sFldPut, setF, dDic0, dChain, sForO, iRA, e]
  rw [← P300_Bm] at c2
  have es : f_base_sum [.int (48 : Nat)] = _ := e_sum 48 (Nat.lt_of_lt_of_le (show 48 < 2 ^ 6 by decide) (Nat.pow_le_pow_right (by decide) (by decide)))
  have es : f_base_sum [.int 48] = ok (.int (SB 48)) := es
  have et : sumN [.lst (iN P300)] = ok (.int (SB 48)) := by
    unfold sumN
    dsimp only
    rw [ints?_map]
    dsimp only
    rw [sum_cast, P300_Bm, SB_sum]
  have sz : (iN P300).length ≤ sizeLine := by
    rw [List.length_map, List.length_map, P300_len]
    show 48 ≤ 2 ^ 24
    decide
  have sz3 : (iN (List.range 301)).length ≤ sizeLine := by
    rw [List.length_map, List.length_map, List.length_range]
    show 301 ≤ 2 ^ 24
    decide
  have sz4 : (iN (List.range 48)).length ≤ sizeLine := by
    rw [List.length_map, List.length_map, List.length_range]
    show 48 ≤ 2 ^ 24
    decide
  have sz1 : 1 ≤ sizeLine := by
    show 1 ≤ 2 ^ 24
    decide
  have sz2 : 2 ≤ sizeLine := by
    show 2 ≤ 2 ^ 24
    decide
  have m2 := fun i : Int => v_mulL (j := i) (show -(2 ^ 64) < (2 : Int) by decide) (show (2 : Int) < 2 ^ 64 by decide)
  obtain ⟨s', eL, x1, x2, x3, x4, rfl⟩ := forL_inv (T := gNm 1) (F := sSeq (sAsg (dCallU 1 f_plain_pair [] (aCons (dVar 1) aNil)) (gTp (gsCons (gNm 3) (gsCons (gNm 4) gsNil))))
    (sIf (dOr (dTst (dBin ninD (dVar 3) (dVar 0))) (dOr (dTst (dBin ninD (dVar 4) (dVar 0))) (dOr (dTst (dBin neD (dBin subI (dBin mulI (dC (.int 2)) (dVar 4)) (dVar 3)) (dVar 1))) (dTst (dBin eqD (dBin ltI (dVar 3) (dVar 4)) (dBin inD (dVar 1) (dVar 0)))))))
    (sRet (dC (.bl false)))
    sNil)) (fun i s => ∃ x1 x2 x3 x4 : Sl, s = [.val (.lst (iN P300)), x1, x2, x3, x4]) (iN (List.range 301)) 0 [.val (.lst (iN P300)), .un, .un, .un, .un] ⟨.un, .un, .un, .un, rfl⟩ (by
    rintro i d s hi ⟨x1, x2, x3, x4, rfl⟩
    rw [List.getElem?_map, List.getElem?_map] at hi
    have hik : i < 301 := by
      by_cases c : i < 301
      · exact c
      · rw [List.getElem?_eq_none (by simpa using c)] at hi
        cases hi
    rw [List.getElem?_range hik] at hi
    cases hi
    have e := e_pair i (s300 hik)
    obtain ⟨q1, q2, q3, q4⟩ := pair_eq i
    obtain ⟨kl, hl⟩ := lo_Bm i
    obtain ⟨ku, hu⟩ := up_Bm i
    have pL : pl (lo i) := hl ▸ Bm_pl kl
    have pU : pl (up i) := hu ▸ Bm_pl ku
    have n1 := v_ninL (lo i) (P300.map fun (j : Nat) => (j : Int))
    have n2 := v_ninL (up i) (P300.map fun (j : Nat) => (j : Int))
    have n3 := v_inL i (P300.map fun (j : Nat) => (j : Int))
    have m1 : ((lo i : Nat) : Int) ∈ (P300.map fun (j : Nat) => (j : Int)) := mem_iN.mpr (P300_mem.mpr ⟨by omega, pL⟩)
    have mm : ((up i : Nat) : Int) ∈ (P300.map fun (j : Nat) => (j : Int)) := mem_iN.mpr (P300_mem.mpr ⟨by omega, pU⟩)
    have eq : 2 * ((up i : Nat) : Int) - ((lo i : Nat) : Int) = (i : Int) := by omega
    refine ⟨[.val (.lst (iN P300)), .val (.int i), x2, x3, x4], [.val (.lst (iN P300)), .val (.int i), x2, .val (.int (lo i)), .val (.int (up i))], rfl, ?_, _, _, _, _, rfl⟩
    by_cases c : pl i
    · have m3 : ((i : Nat) : Int) ∈ (P300.map fun (j : Nat) => (j : Int)) := mem_iN.mpr (P300_mem.mpr ⟨hik, c⟩)
      have h4 : ¬ ((lo i : Nat) : Int) < ((up i : Nat) : Int) := fun z => q3.mp (by omega) c
      have eb := v_eqB false true
      simp only [runP, runF, runI, sSeq, sSet, sRet, sRetF, sRetN, sIf, sAsg, sPar, sPar3, sExpr, sNil, sNever, sPub, sOwn, sApp, sPut, dBin, dVar, dC, dTst, dNot, dAnd, dOr, vAnd, vOr, vNot, dIf, dTup, dLst, aNil, aCons, dCall, dCallU, dCallK, dCallI, dIsi, dOwnIx, gNm, gTp, gsNil, gsCons, iR1, iEn, iLst, dListZip, dRep, ownL, ownD, putL, putD, pubS, bd_ok', v_add, v_sub, v_lt, v_le, v_gt, v_ge, v_is0, v_is1, v_eqI, v_neI, v_isII, v_isBI, List.map_cons, List.map_nil, List.cons_append, List.nil_append, List.append_nil, List.length_cons, List.length_nil, List.replicate, List.getElem?_cons_zero, List.getElem?_cons_succ, List.set_cons_zero, List.set_cons_succ, if_true, if_false, Nat.reduceAdd, Nat.reduceSub, Nat.reduceEqDiff, Bool.false_eq_true, Bool.not_true, Bool.not_false, decide_true, decide_false, and_self, v_ninAl, dNeg, dFld, fldD, dProp, dMake, sFldPut, setF, dDic0, dChain, sForO, iRA, e, n1, n2, n3, m1, mm, m2, eq, m3, h4, eb]
      rfl
    · have m3 : ¬ ((i : Nat) : Int) ∈ (P300.map fun (j : Nat) => (j : Int)) := fun z => c (P300_mem.mp (mem_iN.mp z)).2
      have h4 : ((lo i : Nat) : Int) < ((up i : Nat) : Int) := by
        have := q3.mpr c
        omega
      have eb := v_eqB true false
      simp only [runP, runF, runI, sSeq, sSet, sRet, sRetF, sRetN, sIf, sAsg, sPar, sPar3, sExpr, sNil, sNever, sPub, sOwn, sApp, sPut, dBin, dVar, dC, dTst, dNot, dAnd, dOr, vAnd, vOr, vNot, dIf, dTup, dLst, aNil, aCons, dCall, dCallU, dCallK, dCallI, dIsi, dOwnIx, gNm, gTp, gsNil, gsCons, iR1, iEn, iLst, dListZip, dRep, ownL, ownD, putL, putD, pubS, bd_ok', v_add, v_sub, v_lt, v_le, v_gt, v_ge, v_is0, v_is1, v_eqI, v_neI, v_isII, v_isBI, List.map_cons, List.map_nil, List.cons_append, List.nil_append, List.append_nil, List.length_cons, List.length_nil, List.replicate, List.getElem?_cons_zero, List.getElem?_cons_succ, List.set_cons_zero, List.set_cons_succ, if_true, if_false, Nat.reduceAdd, Nat.reduceSub, Nat.reduceEqDiff, Bool.false_eq_true, Bool.not_true, Bool.not_false, decide_true, decide_false, and_self, v_ninAl, dNeg, dFld, fldD, dProp, dMake, sFldPut, setF, dDic0, dChain, sForO, iRA, e, n1, n2, n3, m1, mm, m2, eq, m3, h4, eb]
      rfl)
  simp only [f__law_first_right, b__law_first_right, dComp, wipeS, restS, keepV, sFor, runP, runF, runI, sSeq, sSet, sRet, sRetF, sRetN, sIf, sAsg, sPar, sPar3, sExpr, sNil, sNever, sPub, sOwn, sApp, sPut, dBin, dVar, dC, dTst, dNot, dAnd, dOr, vAnd, vOr, vNot, dIf, dTup, dLst, aNil, aCons, dCall, dCallU, dCallK, dCallI, dIsi, dOwnIx, gNm, gTp, gsNil, gsCons, iR1, iEn, iLst, dListZip, dRep, ownL, ownD, putL, putD, pubS, bd_ok', v_add, v_sub, v_lt, v_le, v_gt, v_ge, v_is0, v_is1, v_eqI, v_neI, v_isII, v_isBI, List.map_cons, List.map_nil, List.cons_append, List.nil_append, List.append_nil, List.length_cons, List.length_nil, List.replicate, List.getElem?_cons_zero, List.getElem?_cons_succ, List.set_cons_zero, List.set_cons_succ, if_true, if_false, Nat.reduceAdd, Nat.reduceSub, Nat.reduceEqDiff, Bool.false_eq_true, Bool.not_true, Bool.not_false, decide_true, decide_false, and_self, v_ninAl, dNeg, dFld, fldD, dProp, dMake, sFldPut, setF, dDic0, dChain, sForO, iRA, hr, er, c1, sz, sz1, sz2, sz3, sz4, Nat.zero_add, Nat.reduceLeDiff, g0, g1, ne, ln, hr2, er2, c2, es, et, eL]
theorem e_between (g : Nat) (hg : g < 3 ^ 126) : f__law_between_right [.int g] = ok (.bl true) := by
  have h127 : 3 ^ 126 < 3 ^ 127 := by decide
  obtain ⟨n, e1, h1, h2, h3, h4⟩ := e_next g (Nat.lt_of_le_of_lt (show g + 1 ≤ 3 ^ 127 by omega) (Nat.pow_lt_pow_right (by decide) (by decide)))
  have hn : n ≤ 2 ^ 127 := by
    rcases Nat.lt_or_ge (2 ^ 127) n with c | c
    · have := h2 _ c
      rw [Bm_pow] at this
      omega
    · exact c
  have hB : Bm n ≤ 3 ^ 127 := by
    have := Bm_mono hn
    rwa [Bm_pow] at this
  have b250 : Bm n + 1 < 3 ^ 250 := Nat.lt_of_le_of_lt (show Bm n + 1 ≤ 3 ^ 128 by
    have : (3 : Nat) ^ 128 = 3 * 3 ^ 127 := Nat.pow_succ'
    omega) (Nat.pow_lt_pow_right (by decide) (by decide))
  have b300 : Bm n < 3 ^ 300 := Nat.lt_of_lt_of_le (show Bm n < 3 ^ 250 by omega) (Nat.pow_le_pow_right (by decide) (by decide))
  have e2 := e_last n b250
  have e3 := e_rankB n (by omega)
  have e4 : f_base_rank [.int ((g : Int) + 1)] = ok (.int n) := by
    have c := e_check ((g : Int) + 1) (by omega)
    have r : f_rank_of [.int ((g : Int) + 1)] = ok (.int n) := h4
    simp only [f_base_rank, b_base_rank, runP, runF, runI, sSeq, sSet, sRet, sRetF, sRetN, sIf, sAsg, sPar, sPar3, sExpr, sNil, sNever, sPub, sOwn, sApp, sPut, dBin, dVar, dC, dTst, dNot, dAnd, dOr, vAnd, vOr, vNot, dIf, dTup, dLst, aNil, aCons, dCall, dCallU, dCallK, dCallI, dIsi, dOwnIx, gNm, gTp, gsNil, gsCons, iR1, iEn, iLst, dListZip, dRep, ownL, ownD, putL, putD, pubS, bd_ok', v_add, v_sub, v_lt, v_le, v_gt, v_ge, v_is0, v_is1, v_eqI, v_neI, v_isII, v_isBI, List.map_cons, List.map_nil, List.cons_append, List.nil_append, List.append_nil, List.length_cons, List.length_nil, List.replicate, List.getElem?_cons_zero, List.getElem?_cons_succ, List.set_cons_zero, List.set_cons_succ, if_true, if_false, Nat.reduceAdd, Nat.reduceSub, Nat.reduceEqDiff, Bool.false_eq_true, Bool.not_true, Bool.not_false, decide_true, decide_false, and_self, v_ninAl, dNeg, dFld, fldD, dProp, dMake, sFldPut, setF, dDic0, dChain, sForO, iRA, c, r]
  have c1 : ¬ ((Bm n : Nat) : Int) ≤ (g : Int) := by omega
  have e5 := e_init (Bm n) b300
  have e6 := e_tplain n
  have m2 := fun i : Int => v_mulL (j := i) (show -(2 ^ 64) < (2 : Int) by decide) (show (2 : Int) < 2 ^ 64 by decide)
  obtain ⟨t, et, ht⟩ : ∃ t : Nat, ((if (g : Int) + 40 < ((Bm n : Nat) : Int) then (g : Int) + 40 else ((Bm n : Nat) : Int)) - ((g : Int) + 1)).toNat = t ∧ g + 1 + t ≤ Bm n := ⟨_, rfl, by split <;> omega⟩
  obtain ⟨s', eL, x2, x3, x4, rfl⟩ := forL_inv (T := gNm 2) (F := sSeq (sAsg (dCallU 1 f_plain_pair [] (aCons (dVar 2) aNil)) (gTp (gsCons (gNm 3) (gsCons (gNm 4) gsNil))))
    (sIf (dOr (dNot (dTst (dChain ltI ltI (dVar 3) (dVar 4) (dVar 2)))) (dOr (dNot (dTst (dCallU 1 f_in_base [] (aCons (dVar 3) aNil)))) (dOr (dNot (dTst (dCallU 1 f_in_base [] (aCons (dVar 4) aNil)))) (dTst (dBin neD (dBin subI (dBin mulI (dC (.int 2)) (dVar 4)) (dVar 3)) (dVar 2))))))
    (sRet (dC (.bl false)))
    sNil)) (fun i s => ∃ x2 x3 x4 : Sl, s = [.val (.int g), .val (.int (Bm n)), x2, x3, x4]) (rangeD ((g : Int) + 1) t) 0 [.val (.int g), .val (.int (Bm n)), .un, .un, .un] ⟨.un, .un, .un, rfl⟩ (by
    rintro i d s hi ⟨x2, x3, x4, rfl⟩
    have hit : i < t := by
      (have := (List.getElem?_eq_some_iff.mp hi).1)
      rwa [rangeD_len] at this
    rw [rangeD_get _ _ _ hit] at hi
    cases hi
    have em : (g : Int) + 1 + (i : Int) = ((g + 1 + i : Nat) : Int) := by omega
    rw [em]
    generalize hm : g + 1 + i = m
    have mB : m < Bm n := by omega
    have e := e_pair m (by omega)
    obtain ⟨q1, q2, q3, q4⟩ := pair_eq m
    have np : ¬ pl m := fun z => by
      obtain ⟨k, rfl⟩ := pl_of.mp z
      rcases Nat.lt_or_ge k n with c | c
      · have := h2 k c
        omega
      · have := Bm_mono c
        omega
    have lt := q3.mpr np
    obtain ⟨kl, hl⟩ := lo_Bm m
    obtain ⟨ku, hu⟩ := up_Bm m
    have i1 : f_in_base [.int (lo m)] = ok (.bl true) := by
      rw [hl]
      exact e_in_baseB kl (by omega)
    have i2 : f_in_base [.int (up m)] = ok (.bl true) := by
      rw [hu]
      exact e_in_baseB ku (by omega)
    have l1 : ((lo m : Nat) : Int) < ((up m : Nat) : Int) := by omega
    have l2 : ((up m : Nat) : Int) < (m : Int) := by omega
    have eq : 2 * ((up m : Nat) : Int) - ((lo m : Nat) : Int) = (m : Int) := by omega
    refine ⟨[.val (.int g), .val (.int (Bm n)), .val (.int m), x3, x4], [.val (.int g), .val (.int (Bm n)), .val (.int m), .val (.int (lo m)), .val (.int (up m))], rfl, ?_, _, _, _, rfl⟩
    simp only [runP, runF, runI, sSeq, sSet, sRet, sRetF, sRetN, sIf, sAsg, sPar, sPar3, sExpr, sNil, sNever, sPub, sOwn, sApp, sPut, dBin, dVar, dC, dTst, dNot, dAnd, dOr, vAnd, vOr, vNot, dIf, dTup, dLst, aNil, aCons, dCall, dCallU, dCallK, dCallI, dIsi, dOwnIx, gNm, gTp, gsNil, gsCons, iR1, iEn, iLst, dListZip, dRep, ownL, ownD, putL, putD, pubS, bd_ok', v_add, v_sub, v_lt, v_le, v_gt, v_ge, v_is0, v_is1, v_eqI, v_neI, v_isII, v_isBI, List.map_cons, List.map_nil, List.cons_append, List.nil_append, List.append_nil, List.length_cons, List.length_nil, List.replicate, List.getElem?_cons_zero, List.getElem?_cons_succ, List.set_cons_zero, List.set_cons_succ, if_true, if_false, Nat.reduceAdd, Nat.reduceSub, Nat.reduceEqDiff, Bool.false_eq_true, Bool.not_true, Bool.not_false, decide_true, decide_false, and_self, v_ninAl, dNeg, dFld, fldD, dProp, dMake, sFldPut, setF, dDic0, dChain, sForO, iRA, e, l1, l2, i1, i2, m2, eq])
  have mn : min2N [.int (Bm n), .int ((g : Int) + 40)] = ok (.int (if (g : Int) + 40 < ((Bm n : Nat) : Int) then (g : Int) + 40 else ((Bm n : Nat) : Int))) := rfl
  simp only [f__law_between_right, b__law_between_right, sFor, runP, runF, runI, sSeq, sSet, sRet, sRetF, sRetN, sIf, sAsg, sPar, sPar3, sExpr, sNil, sNever, sPub, sOwn, sApp, sPut, dBin, dVar, dC, dTst, dNot, dAnd, dOr, vAnd, vOr, vNot, dIf, dTup, dLst, aNil, aCons, dCall, dCallU, dCallK, dCallI, dIsi, dOwnIx, gNm, gTp, gsNil, gsCons, iR1, iEn, iLst, dListZip, dRep, ownL, ownD, putL, putD, pubS, bd_ok', v_add, v_sub, v_lt, v_le, v_gt, v_ge, v_is0, v_is1, v_eqI, v_neI, v_isII, v_isBI, List.map_cons, List.map_nil, List.cons_append, List.nil_append, List.append_nil, List.length_cons, List.length_nil, List.replicate, List.getElem?_cons_zero, List.getElem?_cons_succ, List.set_cons_zero, List.set_cons_succ, if_true, if_false, Nat.reduceAdd, Nat.reduceSub, Nat.reduceEqDiff, Bool.false_eq_true, Bool.not_true, Bool.not_false, decide_true, decide_false, and_self, v_ninAl, dNeg, dFld, fldD, dProp, dMake, sFldPut, setF, dDic0, dChain, sForO, iRA, e1, e2, e3, e4, c1, mn, et, eL, e5]
  simp only [tern, if_true, bd_ok']
  have e6 : f_Ternary_is_plain [.obj "Ternary" [.int (Bm n), .tup (iN (dg 3 (Bm n)).reverse)]] = ok (.bl true) := e6
  rw [e6]
  rfl
abbrev mS (d : D) : S := [.io d, .un, .un, .un, .un, .un, .un, .un, .un, .un, .un]
theorem draw_members : ∀ (ds : List D) (k : Nat) (d : D), Strm k d → k + 130 * ds.length < 2 ^ 49 → ∃ ns d', compL [2] (gNm 2) tTrue (dCallU 1 f_base_member [] (aCons (dCallI 0 1 f__law_number aNil) aNil)) ds (mS d) = ok (mD ns, mS d') ∧ ns.length = ds.length ∧ (∀ n ∈ ns, n < 2 ^ 250) ∧ Strm (k + 130 * ds.length) d'
  | [], k, d, h, _ => ⟨[], d, rfl, rfl, (fun n hn => by cases hn), h⟩
  | x :: ds, k, d, h, hk => by
    rw [List.length_cons] at hk
    obtain ⟨r, d1, e1, r0, r1, h1⟩ := e_number h (by omega)
    obtain ⟨ns, d', e2, h2, h3, h4⟩ := draw_members ds (k + 130) d1 h1 (by omega)
    obtain ⟨n, rfl⟩ := Int.eq_ofNat_of_zero_le r0
    have hn : n < 2 ^ 250 := by
      have : (3 : Nat) ^ 126 < 2 ^ 250 := by decide
      omega
    have em := e_member n (Nat.lt_of_lt_of_le hn (Nat.pow_le_pow_right (by decide) (by decide)))
    refine ⟨n :: ns, d', ?_, by rw [List.length_cons, List.length_cons, h2], fun m hm => ?_, ?_⟩
    · have e3 : dCallU 1 f_base_member [] (aCons (dCallI 0 1 f__law_number aNil) aNil) [.io d, .un, .val x, .un, .un, .un, .un, .un, .un, .un, .un] = ok (.int (Bm n), [.io d1, .un, .val x, .un, .un, .un, .un, .un, .un, .un, .un]) := by
        have e1 : f__law_number d [] = ok (.int (n : Int), d1) := e1
        simp only [runP, runF, runI, sSeq, sSet, sRet, sRetF, sRetN, sIf, sAsg, sPar, sPar3, sExpr, sNil, sNever, sPub, sOwn, sApp, sPut, dBin, dVar, dC, dTst, dNot, dAnd, dOr, vAnd, vOr, vNot, dIf, dTup, dLst, aNil, aCons, dCall, dCallU, dCallK, dCallI, dIsi, dOwnIx, gNm, gTp, gsNil, gsCons, iR1, iEn, iLst, dListZip, dRep, ownL, ownD, putL, putD, pubS, bd_ok', v_add, v_sub, v_lt, v_le, v_gt, v_ge, v_is0, v_is1, v_eqI, v_neI, v_isII, v_isBI, List.map_cons, List.map_nil, List.cons_append, List.nil_append, List.append_nil, List.length_cons, List.length_nil, List.replicate, List.getElem?_cons_zero, List.getElem?_cons_succ, List.set_cons_zero, List.set_cons_succ, if_true, if_false, Nat.reduceAdd, Nat.reduceSub, Nat.reduceEqDiff, Bool.false_eq_true, Bool.not_true, Bool.not_false, decide_true, decide_false, and_self, v_ninAl, dNeg, dFld, fldD, dProp, dMake, sFldPut, setF, dDic0, dChain, sForO, iRA, e1, em]
      show bd (ok _) _ = _
      rw [bd_ok']
      show bd (dCallU 1 f_base_member [] (aCons (dCallI 0 1 f__law_number aNil) aNil) [.io d, .un, .val x, .un, .un, .un, .un, .un, .un, .un, .un]) _ = _
      rw [e3, bd_ok']
      show bd (compL [2] (gNm 2) tTrue (dCallU 1 f_base_member [] (aCons (dCallI 0 1 f__law_number aNil) aNil)) ds (mS d1)) _ = _
      rw [e2, bd_ok']
      rfl
    · rcases List.mem_cons.mp hm with rfl | hm
      · exact hn
      · exact h3 m hm
    · rw [List.length_cons, show k + 130 * (ds.length + 1) = k + 130 + 130 * ds.length by omega]
      exact h4
theorem ins_sorted (n : Nat) : ∀ l : List Nat, l.Pairwise (· ≤ ·) → ∃ l' : List Nat, l'.Perm (n :: l) ∧ l'.Pairwise (· ≤ ·)
  | [], _ => ⟨[n], .refl _, by simp⟩
  | m :: l, h => by
    (obtain ⟨h1, h2⟩ := List.pairwise_cons.mp h)
    by_cases c : n ≤ m
    · exact ⟨n :: m :: l, .refl _, List.pairwise_cons.mpr ⟨fun y hy => by
        (rcases List.mem_cons.mp hy with rfl | hy)
        · exact c
        · exact Nat.le_trans c (h1 y hy), h⟩⟩
    · obtain ⟨l', p, s⟩ := ins_sorted n l h2
      refine ⟨m :: l', (p.cons m).trans (.swap n m l), List.pairwise_cons.mpr ⟨fun y hy => ?_, s⟩⟩
      rcases List.mem_cons.mp (p.mem_iff.mp hy) with rfl | hy
      · omega
      · exact h1 y hy
theorem sort_nat : ∀ ns : List Nat, ∃ ms : List Nat, ms.Perm ns ∧ ms.Pairwise (· ≤ ·)
  | [] => ⟨[], .refl _, .nil⟩
  | n :: ns => by
    obtain ⟨ms, p, s⟩ := sort_nat ns
    obtain ⟨l, p2, s2⟩ := ins_sorted n ms s
    exact ⟨l, p2.trans (p.cons n), s2⟩
theorem sort_Bm (ns : List Nat) : ∃ ms : List Nat, sortI (ns.map fun n => (Bm n : Int)) = ms.map (fun n => (Bm n : Int)) ∧ ms.Perm ns ∧ ms.Pairwise (· ≤ ·) := by
  obtain ⟨ms, p, s⟩ := sort_nat ns
  refine ⟨ms, sorted_one _ _ ((sortI_perm _).trans (p.symm.map _)) (sortI_sorted _) ?_, p, s⟩
  rw [List.pairwise_map]
  exact s.imp fun {a b} h => Int.ofNat_le.mpr (Bm_mono h)
theorem three_of {ns : List Nat} (h : ns.length = 3) : ∃ a b c, ns = [a, b, c] := by
  match ns, h with
  | [a, b, c], _ => exact ⟨a, b, c, rfl⟩
theorem uniq_ap {x y z : Int} (hx : x ≤ y) (hz : y ≤ z) (h : ((uniqI (sortI [x, y, z])).length : Int) = 3) : x ≠ z := by
  have e : sortI [x, y, z] = [x, y, z] := sorted_one _ _ (sortI_perm _) (sortI_sorted _) (by simp; omega)
  rw [e] at h
  intro q
  have h1 : x = y := by omega
  have h2 : y = z := by omega
  subst h1 h2
  simp [uniqI] at h
theorem e_mirrorT (b t : Nat) (ht : t ≤ 250) (h : b < 2 ^ t) : f_mirror [.int (Bm b), .int t] = ok (.int (Bm (2 ^ t - 1 - b))) := by
  have c := Bm_comp t b h
  have b3 : Bm b < 3 ^ 300 := Bm_lt3 300 b (Nat.lt_of_lt_of_le h (Nat.pow_le_pow_right (by decide) (by omega)))
  rw [e_mirror b t (by omega) b3 (by omega)]
  congr 3
  omega
theorem e_members {k : Nat} {d : D} (h : Strm k d) (hk : k < 10000) : ∃ d', f__law_members_right d [] = ok (.bl true, d') ∧ Strm (k + 390) d' := by
  obtain ⟨ns, d', e1, h1, h2, h3⟩ := draw_members [.int 0, .int 1, .int 2] k d h (by simp; omega)
  obtain ⟨ms, s1, s2, s3⟩ := sort_Bm ns
  have hl : ms.length = 3 := s2.length_eq.trans h1
  obtain ⟨a, b, c, rfl⟩ := three_of hl
  have hms : ∀ m ∈ [a, b, c], m < 2 ^ 250 := fun m hm => h2 m (s2.mem_iff.mp hm)
  have ha := hms a (by simp)
  have hb := hms b (by simp)
  have hc := hms c (by simp)
  have hab : a ≤ b := by
    have := (List.pairwise_cons.mp s3).1 b (by simp)
    exact this
  have hbc : b ≤ c := by
    have := (List.pairwise_cons.mp (List.pairwise_cons.mp s3).2).1 c (by simp)
    exact this
  refine ⟨d', ?_, h3⟩
  have hr : rngOk (3 : Int) := by decide
  have er : rangeD 0 (3 : Int).toNat = [.int 0, .int 1, .int 2] := rfl
  have e1 : compL _ _ _ _ [.int 0, .int 1, .int 2] [.io d, .un, .un, .un, .un, .un, .un, .un, .un, .un, .un] = ok (mD ns, [.io d', .un, .un, .un, .un, .un, .un, .un, .un, .un, .un]) := e1
  have es : sortedN [.lst (mD ns)] = ok (.lst [.int (Bm a), .int (Bm b), .int (Bm c)]) := by
    have e : mD ns = iD (ns.map fun n => (Bm n : Int)) := by simp
    rw [e]
    unfold sortedN
    dsimp only
    rw [ints?_map]
    dsimp only
    rw [s1]
    rfl
  have ss : dSortSet (aCons (dVar 1) aNil) [.io d', .val (.lst [.int (Bm a), .int (Bm b), .int (Bm c)]), .un, .un, .un, .un, .un, .un, .un, .un, .un] = ok (.lst (iD (uniqI (sortI [(Bm a : Int), Bm b, Bm c]))), [.io d', .val (.lst [.int (Bm a), .int (Bm b), .int (Bm c)]), .un, .un, .un, .un, .un, .un, .un, .un, .un]) := by
    have e : ints? [D.int (Bm a), .int (Bm b), .int (Bm c)] = some [(Bm a : Int), Bm b, Bm c] := ints?_map [(Bm a : Int), Bm b, Bm c]
    have t : ([(Bm a : Int), Bm b, Bm c] : List Int).length < 64 := by
      show 3 < 64
      decide
    unfold dSortSet
    simp only [runP, runF, runI, sSeq, sSet, sRet, sRetF, sRetN, sIf, sAsg, sPar, sPar3, sExpr, sNil, sNever, sPub, sOwn, sApp, sPut, dBin, dVar, dC, dTst, dNot, dAnd, dOr, vAnd, vOr, vNot, dIf, dTup, dLst, aNil, aCons, dCall, dCallU, dCallK, dCallI, dIsi, dOwnIx, gNm, gTp, gsNil, gsCons, iR1, iEn, iLst, dListZip, dRep, ownL, ownD, putL, putD, pubS, bd_ok', v_add, v_sub, v_lt, v_le, v_gt, v_ge, v_is0, v_is1, v_eqI, v_neI, v_isII, v_isBI, List.map_cons, List.map_nil, List.cons_append, List.nil_append, List.append_nil, List.length_cons, List.length_nil, List.replicate, List.getElem?_cons_zero, List.getElem?_cons_succ, List.set_cons_zero, List.set_cons_succ, if_true, if_false, Nat.reduceAdd, Nat.reduceSub, Nat.reduceEqDiff, Bool.false_eq_true, Bool.not_true, Bool.not_false, decide_true, decide_false, and_self, v_ninAl, dNeg, dFld, fldD, dProp, dMake, sFldPut, setF, dDic0, dChain, sForO, iRA, e]
    rfl
  have sl : lenN [.lst (iD (uniqI (sortI [(Bm a : Int), Bm b, Bm c])))] = ok (.int ((uniqI (sortI [(Bm a : Int), Bm b, Bm c])).length)) := by
    unfold lenN
    dsimp only
    rw [List.length_map]
  have i0 : L2.atI [D.int (Bm a), .int (Bm b), .int (Bm c)] 0 = some (.int (Bm a)) := rfl
  have i1 : L2.atI [D.int (Bm a), .int (Bm b), .int (Bm c)] 1 = some (.int (Bm b)) := rfl
  have i2 : L2.atI [D.int (Bm a), .int (Bm b), .int (Bm c)] 2 = some (.int (Bm c)) := rfl
  have m2 := fun i : Int => v_mulL (j := i) (show -(2 ^ 64) < (2 : Int) by decide) (show (2 : Int) < 2 ^ 64 by decide)
  have inb : ∀ n, n ≤ 2 ^ 250 → f_in_base [.int (Bm n)] = ok (.bl true) := fun n hn => e_in_baseB n (Bm_lt3 300 n (Nat.lt_of_le_of_lt hn (Nat.pow_lt_pow_right (by decide) (by decide))))
  have c1 := comp_none 3 (dNot (dTst (dCallU 1 f_in_base [] (aCons (dVar 3) aNil)))) (dC (.int 1)) [.io d', .val (.lst [.int (Bm a), .int (Bm b), .int (Bm c)]), .un, .un, .un, .un, .un, .un, .un, .un, .un] (fun _ => rfl) [.int (Bm a), .int (Bm b), .int (Bm c)] (fun x hx => by
    obtain ⟨n, hn, rfl⟩ : ∃ n, n ≤ 2 ^ 250 ∧ x = .int (Bm n) := by
      (rcases List.mem_cons.mp hx with rfl | hx)
      · exact ⟨a, by omega, rfl⟩
      (rcases List.mem_cons.mp hx with rfl | hx)
      · exact ⟨b, by omega, rfl⟩
      (rcases List.mem_cons.mp hx with rfl | hx)
      · exact ⟨c, by omega, rfl⟩
      · cases hx
    have e := inb n hn
    simp only [runP, runF, runI, sSeq, sSet, sRet, sRetF, sRetN, sIf, sAsg, sPar, sPar3, sExpr, sNil, sNever, sPub, sOwn, sApp, sPut, dBin, dVar, dC, dTst, dNot, dAnd, dOr, vAnd, vOr, vNot, dIf, dTup, dLst, aNil, aCons, dCall, dCallU, dCallK, dCallI, dIsi, dOwnIx, gNm, gTp, gsNil, gsCons, iR1, iEn, iLst, dListZip, dRep, ownL, ownD, putL, putD, pubS, bd_ok', v_add, v_sub, v_lt, v_le, v_gt, v_ge, v_is0, v_is1, v_eqI, v_neI, v_isII, v_isBI, List.map_cons, List.map_nil, List.cons_append, List.nil_append, List.append_nil, List.length_cons, List.length_nil, List.replicate, List.getElem?_cons_zero, List.getElem?_cons_succ, List.set_cons_zero, List.set_cons_succ, if_true, if_false, Nat.reduceAdd, Nat.reduceSub, Nat.reduceEqDiff, Bool.false_eq_true, Bool.not_true, Bool.not_false, decide_true, decide_false, and_self, v_ninAl, dNeg, dFld, fldD, dProp, dMake, sFldPut, setF, dDic0, dChain, sForO, iRA, e])
  have ne0 : neD (.lst []) (.lst []) = ok (.bl false) := by
    rw [show (D.lst [] : D) = .lst (iD []) from rfl, v_neL]
    rfl
  have eq0 : eqD (.lst []) (.lst []) = ok (.bl true) := by
    rw [show (D.lst [] : D) = .lst (iD []) from rfl, v_eqL]
    rfl
  have ej : f_join [.tup [.int (Bm a), .int (Bm b), .int (Bm c)]] = ok (.int (Bm (orL [a, b, c]))) := e_join [a, b, c] (by simp) hms (by simp)
  have em : f_meet [.tup [.int (Bm a), .int (Bm b), .int (Bm c)]] = ok (.int (Bm (anL [a, b, c]))) := e_meet [a, b, c] (by simp) hms (by simp)
  have ho : orL [a, b, c] < 2 ^ 250 := or_lt 250 _ hms
  have hm : anL [a, b, c] < 2 ^ 250 := an_lt 250 _ (by simp) hms
  have ed := e_diff ((Bm c : Int) - Bm a)
  have b3 : ∀ n, n < 2 ^ 250 → Bm n < 3 ^ 250 := fun n hn => Bm_lt3 250 n hn
  have hca : Bm a ≤ Bm c := Bm_mono (by omega)
  have eg : dpI ((Bm c : Int) - Bm a) = (((dp (Bm c - Bm a)).1 : Int), ((dp (Bm c - Bm a)).2 : Int)) := by
    unfold dpI
    rw [if_pos (by omega), show ((Bm c : Int) - Bm a).natAbs = Bm c - Bm a by omega]
  rw [eg] at ed
  obtain ⟨p1, p2⟩ := dp_pl (Bm c - Bm a)
  have dl := (dp_le (Bm c - Bm a)).1
  have dd := dp_diff (Bm c - Bm a)
  have hcB := b3 c hc
  have inp : ∀ x : Nat, pl x → x ≤ 2 * Bm c → f_in_base [.int x] = ok (.bl true) := fun x px hx => by
    rw [e_in_base x (Nat.lt_of_le_of_lt hx (Nat.lt_of_lt_of_le (show 2 * Bm c < 3 ^ 251 by
      have : (3 : Nat) ^ 251 = 3 * 3 ^ 250 := Nat.pow_succ'
      omega) (Nat.pow_le_pow_right (by decide) (by decide)))), decide_eq_true px]
  have ek := e_rankB b (b3 b hb)
  have ei := e_init (Bm b) (Bm_300 hb)
  have et := e_tdigits (Bm b)
  have el : lenN [.tup (iN (dg 3 (Bm b)).reverse)] = ok (.int ((dg 2 b).length : Nat)) := by
    unfold lenN
    dsimp only
    rw [List.length_map, List.length_map, List.length_reverse, dg_Bm]
  have ht := dg_len (r := 2) (by decide) 250 b hb
  have emi := e_mirrorT b (dg 2 b).length ht (dg_lt b)
  have hmi : 2 ^ (dg 2 b).length - 1 - b < 2 ^ 250 := by
    have : 2 ^ (dg 2 b).length ≤ 2 ^ 250 := Nat.pow_le_pow_right (by decide) ht
    have := dg_lt b
    omega
  have ega : f_base_gap [.int ((b : Int) + 1)] = ok (.int (due (b + 1))) := e_gap (b + 1) (by omega)
  have hga : (Bm b : Int) + (due (b + 1) : Int) = (Bm (b + 1) : Int) := by
    have := Bm_gap (b + 1) (by omega)
    rw [Nat.add_sub_cancel] at this
    omega
  have su : sumN [.lst [.int (Bm a), .int (Bm b), .int (Bm c)]] = ok (.int ([(Bm a : Int), Bm b, Bm c].sum)) := by
    unfold sumN
    dsimp only
    rw [show [D.int (Bm a), D.int (Bm b), D.int (Bm c)] = iD [(Bm a : Int), Bm b, Bm c] from rfl, ints?_map]
  have f1 : ((Bm (orL [a, b, c]) : Nat) : Int) ≤ [(Bm a : Int), Bm b, Bm c].sum := by
    have q1 := Bm_sum a (b ||| (c ||| 0))
    have q2 := Bm_sum b (c ||| 0)
    rw [Nat.or_zero] at q1 q2
    have q3 : Bm (orL [a, b, c]) = Bm (a ||| (b ||| c)) := by
      show Bm (a ||| (b ||| (c ||| 0))) = _
      rw [Nat.or_zero]
    have q4 : [(Bm a : Int), Bm b, Bm c].sum = (Bm a : Int) + ((Bm b : Int) + ((Bm c : Int) + 0)) := rfl
    rw [q3, q4]
    omega
  have f2 : ((Bm (anL [a, b, c]) : Nat) : Int) ≤ (Bm a : Int) := by
    have : Bm (anL [a, b, c]) ≤ Bm a := Bm_mono (show a &&& (b &&& c) ≤ a from Nat.and_le_left)
    omega
  have c2 := comp_none 3 (dNot (dTst (dCallU 1 f_in_base [] (aCons (dVar 3) aNil)))) (dC (.int 1)) [.io d', .val (.lst [.int (Bm a), .int (Bm b), .int (Bm c)]), .un, .un, .val (.int (Bm (orL [a, b, c]))), .val (.int (Bm (anL [a, b, c]))), .val (.int (dp (Bm c - Bm a)).1), .val (.int (dp (Bm c - Bm a)).2), .val (.int b), .val (.int (dg 2 b).length),
      .val (.lst [.int (Bm (orL [a, b, c])), .int (Bm (anL [a, b, c])), .int (dp (Bm c - Bm a)).1, .int (dp (Bm c - Bm a)).2, .int (Bm (2 ^ (dg 2 b).length - 1 - b)), .int (Bm (b + 1))])] (fun _ => rfl)
      [.int (Bm (orL [a, b, c])), .int (Bm (anL [a, b, c])), .int (dp (Bm c - Bm a)).1, .int (dp (Bm c - Bm a)).2, .int (Bm (2 ^ (dg 2 b).length - 1 - b)), .int (Bm (b + 1))] (fun x hx => by
    have e : ∃ i : Int, x = .int i ∧ f_in_base [.int i] = ok (.bl true) := by
      (rcases List.mem_cons.mp hx with rfl | hx)
      · exact ⟨_, rfl, inb _ (by omega)⟩
      (rcases List.mem_cons.mp hx with rfl | hx)
      · exact ⟨_, rfl, inb _ (by omega)⟩
      (rcases List.mem_cons.mp hx with rfl | hx)
      · exact ⟨_, rfl, inp _ p1 (by omega)⟩
      (rcases List.mem_cons.mp hx with rfl | hx)
      · exact ⟨_, rfl, inp _ p2 (by omega)⟩
      (rcases List.mem_cons.mp hx with rfl | hx)
      · exact ⟨_, rfl, inb _ (by omega)⟩
      (rcases List.mem_cons.mp hx with rfl | hx)
      · exact ⟨_, rfl, inb _ (by omega)⟩
      · cases hx
    obtain ⟨i, rfl, e⟩ := e
    simp only [runP, runF, runI, sSeq, sSet, sRet, sRetF, sRetN, sIf, sAsg, sPar, sPar3, sExpr, sNil, sNever, sPub, sOwn, sApp, sPut, dBin, dVar, dC, dTst, dNot, dAnd, dOr, vAnd, vOr, vNot, dIf, dTup, dLst, aNil, aCons, dCall, dCallU, dCallK, dCallI, dIsi, dOwnIx, gNm, gTp, gsNil, gsCons, iR1, iEn, iLst, dListZip, dRep, ownL, ownD, putL, putD, pubS, bd_ok', v_add, v_sub, v_lt, v_le, v_gt, v_ge, v_is0, v_is1, v_eqI, v_neI, v_isII, v_isBI, List.map_cons, List.map_nil, List.cons_append, List.nil_append, List.append_nil, List.length_cons, List.length_nil, List.replicate, List.getElem?_cons_zero, List.getElem?_cons_succ, List.set_cons_zero, List.set_cons_succ, if_true, if_false, Nat.reduceAdd, Nat.reduceSub, Nat.reduceEqDiff, Bool.false_eq_true, Bool.not_true, Bool.not_false, decide_true, decide_false, and_self, v_ninAl, dNeg, dFld, fldD, dProp, dMake, sFldPut, setF, dDic0, dChain, sForO, iRA, e])
  have sz : ∀ n, n ≤ 10 → n ≤ sizeLine := fun n hn => by
    show n ≤ 2 ^ 24
    omega
  have z0 := sz 0 (by decide)
  have z2 := sz 2 (by decide)
  have z3 := sz 3 (by decide)
  have z6 := sz 6 (by decide)
  simp only [tern] at ei et
  have cond : (decide (((uniqI (sortI [(Bm a : Int), Bm b, Bm c])).length : Int) = 3) && decide (2 * (Bm b : Int) = (Bm a : Int) + (Bm c : Int))) = false := by
    rw [Bool.and_eq_false_iff]
    by_cases ap : 2 * (Bm b : Int) = (Bm a : Int) + (Bm c : Int)
    · left
      refine decide_eq_false fun z => uniq_ap (Int.ofNat_le.mpr (Bm_mono hab)) (Int.ofNat_le.mpr (Bm_mono hbc)) z ?_
      have := Bm_ap a b c (by omega)
      rw [this]
    · exact .inr (decide_eq_false ap)
  by_cases k1 : ((uniqI (sortI [(Bm a : Int), Bm b, Bm c])).length : Int) = 3
  · have k2 : ¬ 2 * (Bm b : Int) = (Bm a : Int) + (Bm c : Int) := fun z => by
      rw [decide_eq_true k1, decide_eq_true z] at cond
      cases cond
    simp only [f__law_members_right, b__law_members_right, dComp, wipeS, restS, keepV, ixL, dCallV, sFor, runP, runF, runI, sSeq, sSet, sRet, sRetF, sRetN, sIf, sAsg, sPar, sPar3, sExpr, sNil, sNever, sPub, sOwn, sApp, sPut, dBin, dVar, dC, dTst, dNot, dAnd, dOr, vAnd, vOr, vNot, dIf, dTup, dLst, aNil, aCons, dCall, dCallU, dCallK, dCallI, dIsi, dOwnIx, gNm, gTp, gsNil, gsCons, iR1, iEn, iLst, dListZip, dRep, ownL, ownD, putL, putD, pubS, bd_ok', v_add, v_sub, v_lt, v_le, v_gt, v_ge, v_is0, v_is1, v_eqI, v_neI, v_isII, v_isBI, List.map_cons, List.map_nil, List.cons_append, List.nil_append, List.append_nil, List.length_cons, List.length_nil, List.replicate, List.getElem?_cons_zero, List.getElem?_cons_succ, List.set_cons_zero, List.set_cons_succ, if_true, if_false, Nat.reduceAdd, Nat.reduceSub, Nat.reduceEqDiff, Bool.false_eq_true, Bool.not_true, Bool.not_false, decide_true, decide_false, and_self, v_ninAl, dNeg, dFld, fldD, dProp, dMake, sFldPut, setF, dDic0, dChain, sForO, iRA, hr, er, z0, z2, z3, z6, e1, es, ss, sl, i0, i1, i2, m2, c1, ne0, k1, k2, ej, em, ed, ek, ei, et, el, emi, ega, hga, c2, eq0, su, f1, f2]
  · simp only [f__law_members_right, b__law_members_right, dComp, wipeS, restS, keepV, ixL, dCallV, sFor, runP, runF, runI, sSeq, sSet, sRet, sRetF, sRetN, sIf, sAsg, sPar, sPar3, sExpr, sNil, sNever, sPub, sOwn, sApp, sPut, dBin, dVar, dC, dTst, dNot, dAnd, dOr, vAnd, vOr, vNot, dIf, dTup, dLst, aNil, aCons, dCall, dCallU, dCallK, dCallI, dIsi, dOwnIx, gNm, gTp, gsNil, gsCons, iR1, iEn, iLst, dListZip, dRep, ownL, ownD, putL, putD, pubS, bd_ok', v_add, v_sub, v_lt, v_le, v_gt, v_ge, v_is0, v_is1, v_eqI, v_neI, v_isII, v_isBI, List.map_cons, List.map_nil, List.cons_append, List.nil_append, List.append_nil, List.length_cons, List.length_nil, List.replicate, List.getElem?_cons_zero, List.getElem?_cons_succ, List.set_cons_zero, List.set_cons_succ, if_true, if_false, Nat.reduceAdd, Nat.reduceSub, Nat.reduceEqDiff, Bool.false_eq_true, Bool.not_true, Bool.not_false, decide_true, decide_false, and_self, v_ninAl, dNeg, dFld, fldD, dProp, dMake, sFldPut, setF, dDic0, dChain, sForO, iRA, hr, er, z0, z2, z3, z6, e1, es, ss, sl, i0, i1, i2, m2, c1, ne0, k1, ej, em, ed, ek, ei, et, el, emi, ega, hga, c2, eq0, su, f1, f2]
abbrev body : S → M Out := (sSeq (sOwn 3 (dCallU 2 f__law_stream [] (aCons (dVar 2) (aCons (dVar 1) aNil))))
    (sIf (dOr (dNot (dTst (dCallI 3 1 f__law_members_right aNil))) (dNot (dTst (dCallU 1 f__law_between_right [] (aCons (dCallI 3 1 f__law_number aNil) aNil)))))
    (sRet (dC (.bl false)))
    sNil))
theorem e_body {a x3 : Sl} {k : Nat} {item : Int} (hk : k < 100) : ∃ y3, body [a, .val (.int k), .val (.int item), x3] = ok (.nx [a, .val (.int k), .val (.int item), y3]) := by
  obtain ⟨d0, e0, s0⟩ := e_stream item k (by omega) (by omega)
  obtain ⟨d1, e1, s1⟩ := e_members s0 (by omega)
  obtain ⟨r, d2, e2, r0, r1, s2⟩ := e_number s1 (by omega)
  obtain ⟨g, rfl⟩ := Int.eq_ofNat_of_zero_le r0
  have e3 := e_between g (by omega)
  refine ⟨.own d2, ?_⟩
  have e2 : f__law_number d1 [] = ok (.int (g : Int), d2) := e2
  simp only [body, runP, runF, runI, sSeq, sSet, sRet, sRetF, sRetN, sIf, sAsg, sPar, sPar3, sExpr, sNil, sNever, sPub, sOwn, sApp, sPut, dBin, dVar, dC, dTst, dNot, dAnd, dOr, vAnd, vOr, vNot, dIf, dTup, dLst, aNil, aCons, dCall, dCallU, dCallK, dCallI, dIsi, dOwnIx, gNm, gTp, gsNil, gsCons, iR1, iEn, iLst, dListZip, dRep, ownL, ownD, putL, putD, pubS, bd_ok', v_add, v_sub, v_lt, v_le, v_gt, v_ge, v_is0, v_is1, v_eqI, v_neI, v_isII, v_isBI, List.map_cons, List.map_nil, List.cons_append, List.nil_append, List.append_nil, List.length_cons, List.length_nil, List.replicate, List.getElem?_cons_zero, List.getElem?_cons_succ, List.set_cons_zero, List.set_cons_succ, if_true, if_false, Nat.reduceAdd, Nat.reduceSub, Nat.reduceEqDiff, Bool.false_eq_true, Bool.not_true, Bool.not_false, decide_true, decide_false, and_self, v_ninAl, dNeg, dFld, fldD, dProp, dMake, sFldPut, setF, dDic0, dChain, sForO, iRA, e0, e1, e2, e3]
theorem law_true (ns : List Int) (h : ns.length ≤ 63) : f_law [.lst (ns.map D.int)] = ok (.bl true) := by
  have sz1 : 0 + 1 ≤ sizeLine := by
    show 1 ≤ 2 ^ 24
    decide
  have c0 : (iD ns).length + (0 + 1) ≤ sizeLine := by
    rw [List.length_map]
    show _ ≤ 2 ^ 24
    omega
  obtain ⟨ms, ec, hm⟩ := cut_iD (ns ++ [0]) none (some 6)
  have ea : iD ns ++ [.int 0] = iD (ns ++ [0]) := by simp
  have lcat : catL (.lst (iD ns)) (.lst [.int 0]) = ok (.lst (iD (ns ++ [0]))) := by
    unfold catL
    dsimp only
    rw [if_pos (show (iD ns).length + [D.int 0].length ≤ sizeLine from c0), ea]
  obtain ⟨s', eL, x1, x2, x3, rfl⟩ := forL_inv (T := gTp (gsCons (gNm 1) (gsCons (gNm 2) gsNil))) (F := body) (fun i s => ∃ (x1 x2 x3 : Sl), s = [.val (.lst (iD ns)), x1, x2, x3]) (enumD 0 (iD ms)) 0 [.val (.lst (iD ns)), .un, .un, .un] ⟨_, _, _, rfl⟩ (by
    rintro i d s hi ⟨x1, x2, x3, rfl⟩
    obtain ⟨e, h1, rfl⟩ := enum_at _ _ _ _ hi
    obtain ⟨h2, h3⟩ := List.getElem?_eq_some_iff.mp h1
    rw [List.getElem_map] at h3
    subst h3
    rw [List.length_map] at h2
    rw [List.length_append] at hm
    have hm : ms.length ≤ ns.length + 1 := hm
    obtain ⟨y3, e3⟩ := e_body (a := .val (.lst (iD ns))) (x3 := x3) (k := 0 + i) (item := ms[i]) (by omega)
    exact ⟨_, _, rfl, e3, _, _, _, rfl⟩)
  have ef := e_first
  simp only [f_law, b_law, sFor, dCutL, partNo, partAt, lcat, runP, runF, runI, sSeq, sSet, sRet, sRetF, sRetN, sIf, sAsg, sPar, sPar3, sExpr, sNil, sNever, sPub, sOwn, sApp, sPut, dBin, dVar, dC, dTst, dNot, dAnd, dOr, vAnd, vOr, vNot, dIf, dTup, dLst, aNil, aCons, dCall, dCallU, dCallK, dCallI, dIsi, dOwnIx, gNm, gTp, gsNil, gsCons, iR1, iEn, iLst, dListZip, dRep, ownL, ownD, putL, putD, pubS, bd_ok', v_add, v_sub, v_lt, v_le, v_gt, v_ge, v_is0, v_is1, v_eqI, v_neI, v_isII, v_isBI, List.map_cons, List.map_nil, List.cons_append, List.nil_append, List.append_nil, List.length_cons, List.length_nil, List.replicate, List.getElem?_cons_zero, List.getElem?_cons_succ, List.set_cons_zero, List.set_cons_succ, if_true, if_false, Nat.reduceAdd, Nat.reduceSub, Nat.reduceEqDiff, Bool.false_eq_true, Bool.not_true, Bool.not_false, decide_true, decide_false, and_self, v_ninAl, dNeg, dFld, fldD, dProp, dMake, sFldPut, setF, dDic0, dChain, sForO, iRA, ef, ec, eL, sz1]
end Tf
end
namespace Tf
open PySem PySem.Spec PyProof.Rows L2 Dt
theorem facts {P : Program} {w : World} {K : PySem.W.Frag} {h : Heap} {mg : Str → Option Value} {f : Addr} (X : K.In h) (G : h.Ns mainGlobals mg) (hfa : mg ("law" : Str) = some (.ref f)) (c : SaysC fa fn ex K) :
    ∃ fd : FuncData, (∀ (s : Shared) (v : Value), BindsTo s fd ⟨[v], []⟩ [("_law_script", v)]) ∧ ∀ base : Heap, K.In base → base.Ns mainGlobals mg → ∃ k, k ≤ 20 ∧ FnG P w K mg base CX0 k f fd ["_law_script"] (spP K (cl0 K) 1 f_law) := by
  have Z := ctx_of X G c
  obtain ⟨fd, F⟩ : ∃ fd, D_law K fd := c.def_ 32 rfl
  have e := hfa.symm.trans (Z.glo "law" (by decide))
  cases e
  have b := FunD.bindsA (ps := ["_law_script"]) F fun _ _ _ _ _ _ us hl => match us, hl with | [_], _ => rfl
  exact ⟨fd, fun s v => b s [v] rfl, fun base _ _ => ⟨_, by decide, ok_law Z F⟩⟩
end Tf
open PyProof.Rows PySem PySem.W PySem.Calls
theorem PySem.Challenge.cw_triplefree_k71_whole_greedy_by_definitio_holds : PySem.Challenge.rw_triplefree_k71_whole_greedy_by_definitio.Holds := by
  w_on; o_law
  refine HandSHeadRun.head_any (r := OpenLaw.row PySem.Challenge.rw_triplefree_k71_whole_greedy_by_definitio) (q := view (OpenLaw.row PySem.Challenge.rw_triplefree_k71_whole_greedy_by_definitio).prog [40]) (H := Tf.hk) (ob := Tf.ob) (M := 4000) (loose := Tf.loose) (d := HandSHeadRun.topDef (OpenLaw.row PySem.Challenge.rw_triplefree_k71_whole_greedy_by_definitio).prog 40) (kwd := []) Tf.ob_eq
    (by kernel_rfl) (fun s => by kernel_rfl) Tf.run (by kernel_rfl) (by kernel_rfl) (by kernel_rfl) (by rfl) (by first | assumption | decide +kernel) (by decide +kernel) ⟨rfl, rfl, rfl, rfl, rfl, by decide +kernel⟩ ?hw ?hc
  case hw => w_witness2
  case hc =>
    refine Dt.walk_G (l := PySem.Challenge.rw_triplefree_k71_whole_greedy_by_definitio) (n := 63) (k := 20) (x := "_law_script") rfl (by decide) (by kernel_rfl) ⟨rfl, by decide, by decide⟩ ?F
    intro w mg fa h Y G hmg0
    obtain ⟨K, KX, c⟩ := Y
    have hmg
          : mg ("law" : PySem.Str) = some (.ref fa) := by
      have e : (HandSHeadRun.topDef (OpenLaw.row PySem.Challenge.rw_triplefree_k71_whole_greedy_by_definitio).prog 40).name = ("law" : PySem.Str) := by kernel_rfl
      rw [← e]
      exact hmg0
    obtain ⟨fd, hb, hF⟩ := Tf.facts (P := (PySem.Challenge.rw_triplefree_k71_whole_greedy_by_definitio).prog) (w := w) KX G hmg c
    exact ⟨K, fd, Tf.cl0 K, Tf.f_law, KX, hb, Tf.law_true, fun base h1 h2 => by
      obtain ⟨k, hk, F0⟩ := hF base h1 h2
      exact F0.mono hk⟩
