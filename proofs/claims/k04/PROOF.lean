import PyProof.Rows.All
import Wide.All
import OpenK.AllK
import Wide.FinOn
import HandS.ForExc
import HandS.ForMost
import HandS.Defaults
import HandS.IsInst
import HandS.Wide
import HandS.Flow
import HandS.Style
import HandS.Deep
import HandS.Zip
import HandS.Star
import HandS.SortInts
import HandS.TupAny
import HandS.SetFor
import PyProof.Rows.SeqMore
import HandS.GenList
import KE.KDictZip
import PyProof.ReprLen
import KE.KStateDown
import HandS.Ends
import HandS.More
import HandS.Words
import HandS.WordsExc
import HandS.MakeKwOnly
import HandS.Head0
import HandS.Head1
import HandS.Head2
import HandS.HeadEnd
import HandS.HeadHook1
import HandS.HeadHook2
import PySem.Challenge.RW_triplefree_k04_whole_gaps_sums_mirrors
set_option Elab.async false
set_option linter.all false
set_option autoImplicit false
set_option maxRecDepth 100000
set_option maxHeartbeats 0
set_option exponentiation.threshold 10000
/-! Data-level layer: values as data, states as lists of slots. -/
namespace Dt
open L2 PySem PySem.Spec PyProof.Rows
/-! ### data -/
inductive D where
  | non
  | bl (b : Bool)
  | int (i : Int)
  | str (x : Str)
  | lst (xs : List D)
  | tup (xs : List D)
  | obj (c : Str) (fs : List D)
  | dic (ks : List Key) (vs : List D)
/-- what is known of the classes: address, names of the fields in order -/
abbrev Cl := Str → Option (Addr × List Str)
mutual
inductive Rp (K : PySem.W.Frag) (cl : Cl) (H : Hp) : V → D → Prop
  | non : Rp K cl H .non .non
  | bl (b : Bool) : Rp K cl H (.bl b) (.bl b)
  | int (i : Int) : Rp K cl H (.int i) (.int i)
  | str (x : Str) : Rp K cl H (.str x) (.str x)
  | lst {a : Addr} {xs : List V} {ds : List D} : SqL K H a xs → RpA K cl H xs ds → Rp K cl H (.ref a) (.lst ds)
  | tup {a : Addr} {xs : List V} {ds : List D} : SqT K H a xs → RpA K cl H xs ds → Rp K cl H (.ref a) (.tup ds)
  | obj {a C dx : Addr} {fvs : List (Str × V)} {c : Str} {names : List Str} {ds : List D} : cl c = some (C, names) → H a = some (.ins C dx fvs) → fvs.map (·.1) = names → RpA K cl H (fvs.map (·.2)) ds → Rp K cl H (.ref a) (.obj c ds)
  | dic {a : Addr} {kvs : List (Key × V)} {ks : List Key} {ds : List D} : Rd H a (.dK kvs) → kvs.map (·.1) = ks → RpA K cl H (kvs.map (·.2)) ds → Rp K cl H (.ref a) (.dic ks ds)
inductive RpA (K : PySem.W.Frag) (cl : Cl) (H : Hp) : List V → List D → Prop
  | nil : RpA K cl H [] []
  | cons {v : V} {vs : List V} {d : D} {ds : List D} : Rp K cl H v d → RpA K cl H vs ds → RpA K cl H (v :: vs) (d :: ds)
end
theorem same_rd {H H' : Hp} (s : Same H H') {a : Addr} {u : HO} (h : Rd H a u) : Rd H' a u := by
  rcases h with h | ⟨o, h⟩
  · exact .inl (s _ _ h)
  · exact .inr ⟨o, s _ _ h⟩
theorem same_sqT {K : PySem.W.Frag} {H H' : Hp} (s : Same H H') {a : Addr} {xs : List V} (h : SqT K H a xs) : SqT K H' a xs := by
  rcases h with h | h
  · exact .inl (same_rd s h)
  · exact .inr h
mutual
theorem Rp.mono {K : PySem.W.Frag} {cl : Cl} {H H' : Hp} (s : Same H H') : ∀ {v : V} {d : D}, Rp K cl H v d → Rp K cl H' v d
  | _, _, .non => .non
  | _, _, .bl b => .bl b
  | _, _, .int i => .int i
  | _, _, .str x => .str x
  | _, _, .lst h r => .lst (s.seq h) (RpA.mono s r)
  | _, _, .tup h r => .tup (same_sqT s h) (RpA.mono s r)
  | _, _, .obj c h n r => .obj c (s _ _ h) n (RpA.mono s r)
  | _, _, .dic h n r => .dic (same_rd s h) n (RpA.mono s r)
theorem RpA.mono {K : PySem.W.Frag} {cl : Cl} {H H' : Hp} (s : Same H H') : ∀ {vs : List V} {ds : List D}, RpA K cl H vs ds → RpA K cl H' vs ds
  | _, _, .nil => .nil
  | _, _, .cons a b => .cons (Rp.mono s a) (RpA.mono s b)
end
section
variable {K : PySem.W.Frag} {cl : Cl} {H H' : Hp}
theorem RpA.len : ∀ {vs : List V} {ds : List D}, RpA K cl H vs ds → vs.length = ds.length
  | _, _, .nil => rfl
  | _, _, .cons _ r => congrArg (· + 1) r.len
theorem RpA.get : ∀ {vs : List V} {ds : List D} (i : Nat) {d : D}, RpA K cl H vs ds → ds[i]? = some d → ∃ v, vs[i]? = some v ∧ Rp K cl H v d
  | _, _, _, _, .nil, e => by (simp at e)
  | _, _, 0, _, .cons a _, e => by simp at e; subst e; exact ⟨_, rfl, a⟩
  | _, _, i + 1, _, .cons _ r, e => by
    obtain ⟨v, h1, h2⟩ := RpA.get i r (by simpa using e)
    exact ⟨v, by simpa using h1, h2⟩
theorem RpA.get' : ∀ {vs : List V} {ds : List D} (i : Nat) {v : V}, RpA K cl H vs ds → vs[i]? = some v → ∃ d, ds[i]? = some d ∧ Rp K cl H v d
  | _, _, _, _, .nil, e => by (simp at e)
  | _, _, 0, _, .cons a _, e => by simp at e; subst e; exact ⟨_, rfl, a⟩
  | _, _, i + 1, _, .cons _ r, e => by
    obtain ⟨v, h1, h2⟩ := RpA.get' i r (by simpa using e)
    exact ⟨v, by simpa using h1, h2⟩
theorem RpA.append : ∀ {vs ws : List V} {ds es : List D}, RpA K cl H vs ds → RpA K cl H ws es → RpA K cl H (vs ++ ws) (ds ++ es)
  | _, _, _, _, .nil, h => h
  | _, _, _, _, .cons a r, h => .cons a (r.append h)
theorem RpA.set : ∀ {vs : List V} {ds : List D} (i : Nat) {v : V} {d : D}, RpA K cl H vs ds → Rp K cl H v d → RpA K cl H (vs.set i v) (ds.set i d)
  | _, _, _, _, _, .nil, _ => .nil
  | _, _, 0, _, _, .cons _ r, h => .cons h r
  | _, _, i + 1, _, _, .cons a r, h => .cons a (r.set i h)
theorem RpA.take : ∀ {vs : List V} {ds : List D} (n : Nat), RpA K cl H vs ds → RpA K cl H (vs.take n) (ds.take n)
  | _, _, 0, _ => .nil
  | _, _, _ + 1, .nil => .nil
  | _, _, n + 1, .cons a r => .cons a (r.take n)
theorem RpA.drop : ∀ {vs : List V} {ds : List D} (n : Nat), RpA K cl H vs ds → RpA K cl H (vs.drop n) (ds.drop n)
  | _, _, 0, r => r
  | _, _, _ + 1, .nil => .nil
  | _, _, n + 1, .cons _ r => r.drop n
theorem RpA.rev : ∀ {vs : List V} {ds : List D}, RpA K cl H vs ds → RpA K cl H vs.reverse ds.reverse
  | _, _, .nil => .nil
  | _, _, .cons a r => by
    (rw [List.reverse_cons, List.reverse_cons])
    exact r.rev.append (.cons a .nil)
theorem RpA.two {vs : List V} {d e : D} (h : RpA K cl H vs [d, e]) : ∃ v w, vs = [v, w] ∧ Rp K cl H v d ∧ Rp K cl H w e := by
  cases h with
  | cons a r =>
    cases r with
    | cons b q =>
      cases q
      exact ⟨_, _, rfl, a, b⟩
theorem RpA.one {vs : List V} {d : D} (h : RpA K cl H vs [d]) : ∃ v, vs = [v] ∧ Rp K cl H v d := by
  cases h with
  | cons a r =>
    cases r
    exact ⟨_, rfl, a⟩
theorem RpA.ints : ∀ {vs : List V} {ns : List Int}, RpA K cl H vs (ns.map D.int) → vs = ns.map V.int
  | _, [], h => by cases h; rfl
  | _, n :: ns, h => by
    cases h with
    | cons a r =>
      cases a
      rw [r.ints]
      rfl
theorem RpA.ofInts : ∀ {ns : List Int}, RpA K cl H (ns.map V.int) (ns.map D.int)
  | [] => .nil
  | _ :: _ => .cons (.int _) RpA.ofInts
end
/-- a value that leans on no object -/
def D.scal : D → Bool
  | .non => true
  | .bl _ => true
  | .int _ => true
  | .str _ => true
  | _ => false
theorem Rp.scal {K : PySem.W.Frag} {cl : Cl} {H H' : Hp} {v : V} {d : D} (h : Rp K cl H v d) (s : d.scal = true) : Rp K cl H' v d := by
  cases h with
  | non => exact .non
  | bl b => exact .bl b
  | int i => exact .int i
  | str x => exact .str x
  | lst _ _ => cases s
  | tup _ _ => cases s
  | obj _ _ _ _ => cases s
  | dic _ _ _ => cases s
/-! ### hidden addresses -/
def hide (O : List Addr) (H : Hp) : Hp := fun a => if a ∈ O then none else H a
theorem hide_some {O : List Addr} {H : Hp} {a : Addr} {o : HO} : hide O H a = some o ↔ a ∉ O ∧ H a = some o := by
  unfold hide
  by_cases h : a ∈ O
  · simp [h]
  · simp [h]
theorem hide_le {O : List Addr} {H : Hp} : Same (hide O H) H := fun _ _ h => (hide_some.mp h).2
theorem hide_sub {O O' : List Addr} {H : Hp} (h : ∀ a ∈ O', a ∈ O) : Same (hide O H) (hide O' H) := fun _ _ e =>
  let ⟨n, e⟩ := hide_some.mp e
  hide_some.mpr ⟨fun z => n (h _ z), e⟩
/-! ### results -/
structure Ex where
  c : Str
  fs : List D
inductive Rs (α : Type) where
  | ok (a : α)
  | ex (e : Ex)
abbrev M (α : Type) := Option (Rs α)
def ok {α : Type} (a : α) : M α := some (.ok a)
def bd {α β : Type} (m : M α) (f : α → M β) : M β :=
  match m with
  | none => none
  | some (.ex e) => some (.ex e)
  | some (.ok a) => f a
theorem bd_ok {α β : Type} (a : α) (f : α → M β) : bd (ok a) f = f a := rfl
theorem bd_none {α β : Type} (f : α → M β) : bd none f = none := rfl
/-! ### states -/
/-- a slot: no value known; a value; a list or dict of the def's own; the argument that is changed for the caller -/
inductive Sl where
  | un
  | val (d : D)
  | own (d : D)
  | io (d : D)
abbrev S := List Sl
def OwnAt (K : PySem.W.Frag) (cl : Cl) (O : List Addr) (H : Hp) (a : Addr) : D → Prop
  | .lst ds => ∃ xs, H a = some (.lst xs) ∧ RpA K cl (hide O H) xs ds
  | .dic ks ds => ∃ kvs, H a = some (.dK kvs) ∧ kvs.map (·.1) = ks ∧ RpA K cl (hide O H) (kvs.map (·.2)) ds
  | _ => False
theorem OwnAt.some {K : PySem.W.Frag} {cl : Cl} {O : List Addr} {H : Hp} {a : Addr} {d : D} (h : OwnAt K cl O H a d) : H a ≠ none := by
  cases d with
  | lst ds => obtain ⟨xs, e, _⟩ := h; rw [e]; simp
  | dic ks ds => obtain ⟨xs, e, _⟩ := h; rw [e]; simp
  | _ => exact h.elim
theorem OwnAt.move {K : PySem.W.Frag} {cl : Cl} {O O' : List Addr} {H H' : Hp} {a : Addr} {d : D} (h : OwnAt K cl O H a d) (e : H' a = H a) (s : Same (hide O H) (hide O' H')) : OwnAt K cl O' H' a d := by
  cases d with
  | lst ds => obtain ⟨xs, e1, r⟩ := h; exact ⟨xs, e.trans e1, r.mono s⟩
  | dic ks ds => obtain ⟨xs, e1, n, r⟩ := h; exact ⟨xs, e.trans e1, n, r.mono s⟩
  | _ => exact h.elim
/-- as a value, if it is seen -/
theorem OwnAt.rp {K : PySem.W.Frag} {cl : Cl} {O O' : List Addr} {H : Hp} {a : Addr} {d : D} (h : OwnAt K cl O H a d) (n : a ∉ O') (s : Same (hide O H) (hide O' H)) : Rp K cl (hide O' H) (.ref a) d := by
  cases d with
  | lst ds => obtain ⟨xs, e1, r⟩ := h; exact .lst (.inl (.inl (hide_some.mpr ⟨n, e1⟩))) (r.mono s)
  | dic ks ds => obtain ⟨xs, e1, q, r⟩ := h; exact .dic (.inl (hide_some.mpr ⟨n, e1⟩)) q (r.mono s)
  | _ => exact h.elim
/-- where the def stands: hidden addresses, the addresses that may be changed, the one that is the argument's, the heap at the entry -/
structure Wf where
  O0 : List Addr
  I : List Addr
  a0 : Addr
  H0 : Hp
structure StOK (K : PySem.W.Frag) (cl : Cl) (w : Wf) (L : List Addr) (H : Hp) (σ : L2.St) (sd : S) : Prop where
  val : ∀ (i : Nat) (d : D), sd[i]? = some (.val d) → ∃ v, σ[i]? = some (some v) ∧ Rp K cl (hide (L ++ w.O0) H) v d
  own : ∀ (i : Nat) (d : D), sd[i]? = some (.own d) → ∃ a, σ[i]? = some (some (.ref a)) ∧ a ∈ L ∧ OwnAt K cl (L ++ w.O0) H a d
  io : ∀ (i : Nat) (d : D), sd[i]? = some (.io d) → σ[i]? = some (some (.ref w.a0)) ∧ w.a0 ∈ w.I ∧ OwnAt K cl (L ++ w.O0) H w.a0 d
  inj : ∀ (i j : Nat) (d e : D) (a : Addr), sd[i]? = some (.own d) → sd[j]? = some (.own e) → σ[i]? = some (some (.ref a)) → σ[j]? = some (some (.ref a)) → i = j
  ioj : ∀ (i j : Nat) (d e : D), sd[i]? = some (.io d) → sd[j]? = some (.io e) → i = j
  len : σ.length = sd.length
/-- the state's meaning -/
structure Wl (K : PySem.W.Frag) (cl : Cl) (w : Wf) (L : List Addr) (sd : S) (σ : L2.St) (H : Hp) : Prop where
  keep : ∀ b o, b ∉ w.I → w.H0 b = some o → H b = some o
  fresh : ∀ a ∈ L, w.H0 a = none
  alive : ∀ a ∈ L ++ w.O0, H a ≠ none
  disj : ∀ a ∈ L, a ∉ w.O0
  sub : ∀ a ∈ w.I, a ∈ w.O0
  st : StOK K cl w L H σ sd
/-- from (L, H) on to (L', H') -/
structure Step (w : Wf) (L : List Addr) (H : Hp) (L' : List Addr) (H' : Hp) : Prop where
  keep : ∀ b o, b ∉ L → b ∉ w.I → H b = some o → H' b = some o
  alv : ∀ b, H b ≠ none → H' b ≠ none
  new : ∀ a ∈ L', a ∈ L ∨ H a = none
theorem Step.refl {w : Wf} {L : List Addr} {H : Hp} : Step w L H L H := ⟨fun _ _ _ _ e => e, fun _ e => e, fun _ h => .inl h⟩
theorem Step.trans {w : Wf} {L L1 L2 : List Addr} {H H1 H2 : Hp} (s : Step w L H L1 H1) (t : Step w L1 H1 L2 H2) : Step w L H L2 H2 := by
  refine ⟨fun b o h1 h2 e => t.keep b o (fun z => ?_) h2 (s.keep b o h1 h2 e), fun b e => t.alv b (s.alv b e), fun a ha => ?_⟩
  · rcases s.new b z with y | y
    · exact h1 y
    · rw [e] at y; cases y
  · rcases t.new a ha with y | y
    · exact s.new a y
    · refine .inr ?_
      cases q : H a with
      | none => rfl
      | some o => exact absurd y (s.alv a (by rw [q]; simp))
theorem Step.of_same {w : Wf} {L : List Addr} {H H' : Hp} (s : Same H H') : Step w L H L H' :=
  ⟨fun b o _ _ e => s b o e, fun b e => by
    cases q : H b with
    | none => exact absurd q e
    | some o => rw [s b o q]; simp, fun _ h => .inl h⟩
/-- what is seen stays -/
theorem Step.seen {w : Wf} {L L' : List Addr} {H H' : Hp} (s : Step w L H L' H') (hI : ∀ a ∈ w.I, a ∈ w.O0) : Same (hide (L ++ w.O0) H) (hide (L' ++ w.O0) H') := fun b o e => by
  obtain ⟨n, e⟩ := hide_some.mp e
  have n1 : b ∉ L := fun z => n (List.mem_append_left _ z)
  have n2 : b ∉ w.O0 := fun z => n (List.mem_append_right _ z)
  refine hide_some.mpr ⟨fun z => ?_, s.keep b o n1 (fun z => n2 (hI b z)) e⟩
  rcases List.mem_append.mp z with z | z
  · rcases s.new b z with y | y
    · exact n1 y
    · rw [e] at y; cases y
  · exact n2 z
section
variable {K : PySem.W.Frag} {cl : Cl} {w : Wf} {L : List Addr} {sd : S} {σ : L2.St} {H H' : Hp}
theorem Wl.io_ne (W : Wl K cl w L sd σ H) {a : Addr} (ha : a ∈ L) : a ∉ w.I := fun z => W.disj a ha (W.sub a z)
/-- the state stands where all objects stay -/
theorem Wl.ext (W : Wl K cl w L sd σ H) (s : Same H H') : Wl K cl w L sd σ H' := by
  have sh : Same (hide (L ++ w.O0) H) (hide (L ++ w.O0) H') := fun b o e =>
    let ⟨n, e⟩ := hide_some.mp e
    hide_some.mpr ⟨n, s b o e⟩
  have own : ∀ {a d}, OwnAt K cl (L ++ w.O0) H a d → OwnAt K cl (L ++ w.O0) H' a d := fun {a d} h => by
    refine h.move ?_ sh
    cases q : H a with
    | none => exact absurd q h.some
    | some o => exact s a o q
  refine ⟨fun b o n e => s b o (W.keep b o n e), W.fresh, fun a ha => ?_, W.disj, W.sub, ⟨fun i d e => ?_, fun i d e => ?_, fun i d e => ?_, W.st.inj, W.st.ioj, W.st.len⟩⟩
  · have := W.alive a ha
    cases q : H a with
    | none => exact absurd q this
    | some o => rw [s a o q]; simp
  · obtain ⟨v, h1, h2⟩ := W.st.val i d e
    exact ⟨v, h1, h2.mono sh⟩
  · obtain ⟨a, h1, h2, h3⟩ := W.st.own i d e
    exact ⟨a, h1, h2, own h3⟩
  · obtain ⟨h1, h2, h3⟩ := W.st.io i d e
    exact ⟨h1, h2, own h3⟩
/-- a new address -/
theorem Wl.new_ne (W : Wl K cl w L sd σ H) {p : Addr} (n : H p = none) : p ∉ L ++ w.O0 := fun z => W.alive p z n
theorem same_upd {H : Hp} {p : Addr} {o : HO} (n : H p = none) : Same H (upd H p o) := fun b u e => by
  rw [upd_ne (ne_of_none e n)]
  exact e
/-- a new list of the def's own -/
theorem Wl.made (W : Wl K cl w L sd σ H) {p : Addr} (s : Same H H') (n : H p = none) (e : H' p ≠ none) : Wl K cl w (p :: L) sd σ H' := by
  have W' := W.ext s
  have np := W.new_ne n
  have sh : Same (hide (L ++ w.O0) H) (hide (p :: L ++ w.O0) H') := fun b o z =>
    let ⟨n1, z⟩ := hide_some.mp z
    hide_some.mpr ⟨fun y => by
      rcases List.mem_cons.mp y with y | y
      · rw [y, n] at z; cases z
      · exact n1 y, s b o z⟩
  have own : ∀ {a d}, OwnAt K cl (L ++ w.O0) H a d → OwnAt K cl (p :: L ++ w.O0) H' a d := fun {a d} h => by
    refine h.move ?_ sh
    cases q : H a with
    | none => exact absurd q h.some
    | some o => exact s a o q
  refine ⟨W'.keep, fun a ha => ?_, fun a ha => ?_, fun a ha => ?_, W.sub, ⟨fun i d e => ?_, fun i d e => ?_, fun i d e => ?_, W.st.inj, W.st.ioj, W.st.len⟩⟩
  · (rcases List.mem_cons.mp ha with rfl | ha)
    · cases q : w.H0 a with
      | none => rfl
      | some o =>
        by_cases hI : a ∈ w.I
        · exact absurd (List.mem_append_right _ (W.sub a hI)) np
        · have := W.keep a o hI q
          rw [n] at this; cases this
    · exact W.fresh a ha
  · (rcases List.mem_cons.mp ha with rfl | ha)
    · exact e
    · exact W'.alive a ha
  · (rcases List.mem_cons.mp ha with rfl | ha)
    · exact fun z => np (List.mem_append_right _ z)
    · exact W.disj a ha
  · obtain ⟨v, h1, h2⟩ := W.st.val i d e
    exact ⟨v, h1, h2.mono sh⟩
  · obtain ⟨a, h1, h2, h3⟩ := W.st.own i d e
    exact ⟨a, h1, List.mem_cons_of_mem _ h2, own h3⟩
  · obtain ⟨h1, h2, h3⟩ := W.st.io i d e
    exact ⟨h1, h2, own h3⟩
/-- an own address is let go -/
theorem Wl.seen (W : Wl K cl w L sd σ H) : Same (hide (L ++ w.O0) H) (hide w.O0 H) := hide_sub fun _ h => List.mem_append_right _ h
end
end Dt
namespace Dt
open L2 PySem PySem.Spec PyProof.Rows
/-! ### readings by functions of the data -/
section
variable (K : PySem.W.Frag) (cl : Cl)
def PostE (w : Wf) (L : List Addr) (σ : L2.St) (H : Hp) (Q : VK) : M (D × S) → Prop
  | some (.ok (r, s')) => ∀ v H', Step w L H L H' → Wl K cl w L s' σ H' → Rp K cl (hide (L ++ w.O0) H') v r → Q v H'
  | _ => False
def PostT (w : Wf) (L : List Addr) (σ : L2.St) (H : Hp) (Q : Bool → Hp → Prop) : M (Bool × S) → Prop
  | some (.ok (r, s')) => ∀ H', Step w L H L H' → Wl K cl w L s' σ H' → Q r H'
  | _ => False
def PostA (w : Wf) (L : List Addr) (σ : L2.St) (H : Hp) (Q : List V → Hp → Prop) : M (List D × S) → Prop
  | some (.ok (r, s')) => ∀ v H', Step w L H L H' → Wl K cl w L s' σ H' → RpA K cl (hide (L ++ w.O0) H') v r → Q v H'
  | _ => False
/-- a new list: its items -/
def PostF (w : Wf) (L : List Addr) (σ : L2.St) (H : Hp) (Q : VK) : M (D × S) → Prop
  | some (.ok (r, s')) => ∀ p H', Step w L H (p :: L) H' → p ∉ L ++ w.O0 → Wl K cl w L s' σ H' → Wl K cl w (p :: L) s' σ H' → OwnAt K cl (p :: L ++ w.O0) H' p r → Q (.ref p) H'
  | _ => False
def TEof (f : S → M (D × S)) : TE := fun σ H Q => ∃ w L sd, Wl K cl w L sd σ H ∧ PostE K cl w L σ H Q (f sd)
def TTof (f : S → M (Bool × S)) : TT := fun σ H Q => ∃ w L sd, Wl K cl w L sd σ H ∧ PostT K cl w L σ H Q (f sd)
def TAof (f : S → M (List D × S)) : TA := fun σ H Q => ∃ w L sd, Wl K cl w L sd σ H ∧ PostA K cl w L σ H Q (f sd)
def TFof (f : S → M (D × S)) : TE := fun σ H Q => ∃ w L sd, Wl K cl w L sd σ H ∧ PostF K cl w L σ H Q (f sd)
/-- a value's end: it may have made objects -/
def Fin1 (O : List Addr) (H : Hp) (Q : VK) : M D → Prop
  | some (.ok r) => ∀ v H', Same H H' → Rp K cl (hide O H') v r → Q v H'
  | _ => False
end
section
variable {K : PySem.W.Frag} {cl : Cl} {w : Wf} {L : List Addr} {σ : L2.St} {H H1 H2 : Hp} {Q : VK} {s s1 s2 : S}
/-- the end of a failure -/
structure Bot {β : Type} (P : M β → Prop) : Prop where
  no : P none → False
  ex : ∀ e, P (some (.ex e)) → False
theorem botE : Bot (PostE K cl w L σ H Q) := ⟨fun h => h, fun _ h => h⟩
theorem botT {Q : Bool → Hp → Prop} : Bot (PostT K cl w L σ H Q) := ⟨fun h => h, fun _ h => h⟩
theorem botA {Q : List V → Hp → Prop} : Bot (PostA K cl w L σ H Q) := ⟨fun h => h, fun _ h => h⟩
theorem botF : Bot (PostF K cl w L σ H Q) := ⟨fun h => h, fun _ h => h⟩
theorem PostE.bd {m : M (D × S)} {β : Type} {P : M β → Prop} (hb : Bot P) {f : D × S → M β} (h : P (bd m f)) {C : VK}
    (k : ∀ r s1, P (f (r, s1)) → ∀ v H1, Step w L H L H1 → Wl K cl w L s1 σ H1 → Rp K cl (hide (L ++ w.O0) H1) v r → C v H1) : PostE K cl w L σ H C m := by
  match m, h with
  | none, h => exact (hb.no h).elim
  | some (.ex e), h => exact (hb.ex e h).elim
  | some (.ok (r, s1)), h => exact fun v H1 a b c => k r s1 h v H1 a b c
theorem PostT.bd {m : M (Bool × S)} {β : Type} {P : M β → Prop} (hb : Bot P) {f : Bool × S → M β} (h : P (bd m f)) {C : Bool → Hp → Prop}
    (k : ∀ r s1, P (f (r, s1)) → ∀ H1, Step w L H L H1 → Wl K cl w L s1 σ H1 → C r H1) : PostT K cl w L σ H C m := by
  match m, h with
  | none, h => exact (hb.no h).elim
  | some (.ex e), h => exact (hb.ex e h).elim
  | some (.ok (r, s1)), h => exact fun H1 a b => k r s1 h H1 a b
theorem PostA.bd {m : M (List D × S)} {β : Type} {P : M β → Prop} (hb : Bot P) {f : List D × S → M β} (h : P (bd m f)) {C : List V → Hp → Prop}
    (k : ∀ r s1, P (f (r, s1)) → ∀ v H1, Step w L H L H1 → Wl K cl w L s1 σ H1 → RpA K cl (hide (L ++ w.O0) H1) v r → C v H1) : PostA K cl w L σ H C m := by
  match m, h with
  | none, h => exact (hb.no h).elim
  | some (.ex e), h => exact (hb.ex e h).elim
  | some (.ok (r, s1)), h => exact fun v H1 a b c => k r s1 h v H1 a b c
theorem PostF.bd {m : M (D × S)} {β : Type} {P : M β → Prop} (hb : Bot P) {f : D × S → M β} (h : P (bd m f)) {C : VK}
    (k : ∀ r s1, P (f (r, s1)) → ∀ p H1, Step w L H (p :: L) H1 → p ∉ L ++ w.O0 → Wl K cl w L s1 σ H1 → Wl K cl w (p :: L) s1 σ H1 → OwnAt K cl (p :: L ++ w.O0) H1 p r → C (.ref p) H1) : PostF K cl w L σ H C m := by
  match m, h with
  | none, h => exact (hb.no h).elim
  | some (.ex e), h => exact (hb.ex e h).elim
  | some (.ok (r, s1)), h => exact fun v H1 a b c d e => k r s1 h v H1 a b c d e
/-- a pure end -/
theorem PostE.fin {m : M D} (h : PostE K cl w L σ H Q (Dt.bd m fun r => ok (r, s2))) (st : Step w L H L H2) (W : Wl K cl w L s2 σ H2) : Fin1 K cl (L ++ w.O0) H2 Q m := by
  match m, h with
  | none, h => exact h.elim
  | some (.ex e), h => exact h.elim
  | some (.ok r), h => exact fun v H3 sm rp => h v H3 (st.trans (.of_same sm)) (W.ext sm) rp
theorem Step.sn (W : Wl K cl w L s σ H) (st : Step w L H1 L H2) : Same (hide (L ++ w.O0) H1) (hide (L ++ w.O0) H2) := st.seen W.sub
theorem iE {X : Cx} {e : Expr} {t t' : TE} (h : PE X e t) (k : ∀ σ H Q, t' σ H Q → t σ H Q) : PE X e t' := ⟨fun pins s σ H Q I q => h.run pins s σ H Q I (k σ H Q q)⟩
theorem iT {X : Cx} {e : Expr} {t t' : TT} (h : PT X e t) (k : ∀ σ H Q, t' σ H Q → t σ H Q) : PT X e t' := ⟨fun pins s σ H Q I q => h.run pins s σ H Q I (k σ H Q q)⟩
theorem iW {X : Cx} {e : Expr} {t t' : TT} (h : PW X e t) (k : ∀ σ H Q, t' σ H Q → t σ H Q) : PW X e t' := ⟨fun wh pins s σ H Q I q => h.run wh pins s σ H Q I (k σ H Q q)⟩
theorem iA {X : Cx} {e : List Expr} {t t' : TA} (h : PA X e t) (k : ∀ σ H Q, t' σ H Q → t σ H Q) : PA X e t' := ⟨fun pos pins s σ H Q I q => h.run pos pins s σ H Q I (k σ H Q q)⟩
theorem iK {X : Cx} {e : List Keyword} {t t' : TA} (h : PK X e t) (k : ∀ σ H Q, t' σ H Q → t σ H Q) : PK X e t' := ⟨fun pos pins s σ H Q I q => h.run pos pins s σ H Q I (k σ H Q q)⟩
theorem iS {X : Cx} {e : Stmt} {t t' : TS} (h : PS X e t) (k : ∀ D σ H, t' D σ H → t D σ H) : PS X e t' := ⟨fun pins s σ H D I q => h.run pins s σ H D I (k D σ H q)⟩
theorem iSs {X : Cx} {e : List Stmt} {t t' : TS} (h : PSs X e t) (k : ∀ D σ H, t' D σ H → t D σ H) : PSs X e t' := ⟨fun pins s σ H D I q => h.run pins s σ H D I (k D σ H q)⟩
end
/-! ### names, constants -/
def dVar (i : Nat) : S → M (D × S) := fun s => match s[i]? with
  | some (.val d) => ok (d, s)
  | _ => none
def dC (d : D) : S → M (D × S) := fun s => ok (d, s)
section
variable {X : Cx} {K : PySem.W.Frag} {cl : Cl} {pos : Pos}
theorem d_var (i : Nat) {x : Str} (hN : X.N[i]? = some x := by rfl) (hv : Vis X.env.scope x := by first | exact Or.inl rfl | exact Or.inr (Or.inl rfl) | exact Or.inr (Or.inr rfl))
    (hd : (x == ("__debug__" : Str)) = false := by decide) (hcd : (x == ("__classdict__" : Str)) = false := by decide) : PE X (.Name x pos) (TEof K cl (dVar i)) := by
  refine iE (pe_var hN hv hd hcd) ?_
  rintro σ H Q ⟨w, L, sd, W, h⟩
  unfold dVar at h
  split at h
  · next d e =>
    obtain ⟨v, h1, h2⟩ := W.st.val i d e
    exact ⟨v, h1, h v H .refl W h2⟩
  · exact h.elim
theorem dC_of {e : Expr} {v : V} {d : D} (h : PE X e (tC v)) (r : ∀ H : Hp, Rp K cl H v d) : PE X e (TEof K cl (dC d)) := by
  refine iE h ?_
  rintro σ H Q ⟨w, L, sd, W, h⟩
  exact h v H .refl W (r _)
theorem d_int {i j} : PE X (.Constant (.int i) j pos) (TEof K cl (dC (.int i))) := dC_of pe_int fun _ => .int i
theorem d_bl {b j} : PE X (.Constant (.bool b) j pos) (TEof K cl (dC (.bl b))) := dC_of pe_bl fun _ => .bl b
theorem d_non {j} : PE X (.Constant .none j pos) (TEof K cl (dC .non)) := dC_of pe_non fun _ => .non
theorem d_str {x j} : PE X (.Constant (.str x) j pos) (TEof K cl (dC (.str x))) := dC_of pe_str fun _ => .str x
end
/-! ### operators -/
abbrev Op2 := D → D → M D
def dBin (g : Op2) (fa fb : S → M (D × S)) : S → M (D × S) := fun s => bd (fa s) fun p => bd (fb p.2) fun q => bd (g p.1 q.1) fun r => ok (r, q.2)
/-- g tells what r does -/
def OpD (K : PySem.W.Frag) (cl : Cl) (r : R2) (g : Op2) : Prop := ∀ (O : List Addr) (H : Hp) (x y : V) (d e : D) (Q : VK), (∀ a ∈ O, H a ≠ none) → Rp K cl (hide O H) x d → Rp K cl (hide O H) y e → Fin1 K cl O H Q (g d e) → r x y H Q
structure OpK (X : Cx) (K : PySem.W.Frag) (cl : Cl) (f : Value → Value → Sem Value) (g : Op2) : Prop where
  it : ∃ r, OpR X f r ∧ OpD K cl r g
section
variable {X : Cx} {K : PySem.W.Frag} {cl : Cl} {pos : Pos} {a b : Expr} {fa fb : S → M (D × S)} {g : Op2}
theorem bin_read {r : R2} (hd : OpD K cl r g) : ∀ σ H Q, TEof K cl (dBin g fa fb) σ H Q → tOp r (TEof K cl fa) (TEof K cl fb) σ H Q := by
  rintro σ H Q ⟨w, L, sd, W, h⟩
  refine ⟨w, L, sd, W, PostE.bd botE h fun x s1 h v H1 st1 W1 rx => ?_⟩
  refine ⟨w, L, s1, W1, PostE.bd botE h fun y s2 h u H2 st2 W2 ry => ?_⟩
  exact hd (L ++ w.O0) H2 v u x y Q W2.alive (rx.mono (st2.sn W2)) ry (h.fin (st1.trans st2) W2)
theorem d_op {op : Operator} (ho : OpK X K cl (binaryOp op) g) (ha : PE X a (TEof K cl fa)) (hb : PE X b (TEof K cl fb)) : PE X (.BinOp a op b pos) (TEof K cl (dBin g fa fb)) := by
  obtain ⟨r, h1, h2⟩ := ho.it
  exact iE (pe_op h1 ha hb) (bin_read h2)
theorem d_cmp {op : CmpOp} (ho : OpK X K cl (compareOp op) g) (ha : PE X a (TEof K cl fa)) (hb : PE X b (TEof K cl fb)) (hm : behindInMarks op b = false := by first | exact nomark _ | rfl) : PE X (.Compare a [op] [b] pos) (TEof K cl (dBin g fa fb)) := by
  obtain ⟨r, h1, h2⟩ := ho.it
  exact iE (pe_cmpR h1 ha hb hm) (bin_read h2)
end
end Dt
namespace Dt
open L2 PySem PySem.Spec PyProof.Rows
/-! ### operators of ints -/
def mulOk (i j : Int) : Prop := (-(2 ^ 64) < i ∧ i < 2 ^ 64) ∨ (-(2 ^ 64) < j ∧ j < 2 ^ 64) ∨ i.natAbs.log2 + j.natAbs.log2 < 1000000
instance (i j : Int) : Decidable (mulOk i j) := by unfold mulOk; infer_instance
def divOk (j : Int) : Prop := 0 < j ∧ j.natAbs.log2 < 9000
instance (j : Int) : Decidable (divOk j) := by unfold divOk; infer_instance
def powOk (i j : Int) : Prop := 0 ≤ j ∧ j ≤ 1000000 ∧ i.natAbs < 2 ^ 64
instance (i j : Int) : Decidable (powOk i j) := by unfold powOk; infer_instance
def addI : Op2 := fun d e => match d, e with
  | .int i, .int j => ok (.int (i + j))
  | _, _ => none
def subI : Op2 := fun d e => match d, e with
  | .int i, .int j => ok (.int (i - j))
  | _, _ => none
def mulI : Op2 := fun d e => match d, e with
  | .int i, .int j => if mulOk i j then ok (.int (i * j)) else none
  | _, _ => none
def divI : Op2 := fun d e => match d, e with
  | .int i, .int j => if divOk j then ok (.int (i / j)) else none
  | _, _ => none
def modI : Op2 := fun d e => match d, e with
  | .int i, .int j => if 0 < j then ok (.int (i % j)) else none
  | _, _ => none
def powI : Op2 := fun d e => match d, e with
  | .int i, .int j => if powOk i j then ok (.int (i ^ j.toNat)) else none
  | _, _ => none
def ltI : Op2 := fun d e => match d, e with
  | .int i, .int j => ok (.bl (decide (i < j)))
  | _, _ => none
def leI : Op2 := fun d e => match d, e with
  | .int i, .int j => ok (.bl (decide (i ≤ j)))
  | _, _ => none
def gtI : Op2 := fun d e => match d, e with
  | .int i, .int j => ok (.bl (decide (j < i)))
  | _, _ => none
def geI : Op2 := fun d e => match d, e with
  | .int i, .int j => ok (.bl (decide (j ≤ i)))
  | _, _ => none
section
variable {X : Cx} {K : PySem.W.Frag} {cl : Cl}
theorem Fin1.now {O : List Addr} {H : Hp} {Q : VK} {d : D} {v : V} (h : Fin1 K cl O H Q (ok d)) (r : Rp K cl (hide O H) v d) : Q v H := h v H (Same.refl H) r
/-- two ints, a condition -/
theorem opk_int {f : Value → Value → Sem Value} {C : Int → Int → Prop} {g : Int → Int → V} {g' : Int → Int → D} {op : Op2} (ho : OpR X f (rI C g)) (hr : ∀ i j (H : Hp), Rp K cl H (g i j) (g' i j))
    (h1 : ∀ d e, (∃ i j, d = .int i ∧ e = .int j ∧ ((C i j ∧ op d e = ok (g' i j)) ∨ op d e = none)) ∨ op d e = none) : OpK X K cl f op := by
  refine ⟨_, ho, fun O H x y d e Q _ rx ry h => ?_⟩
  rcases h1 d e with ⟨i, j, rfl, rfl, ⟨hc, e1⟩ | e1⟩ | e1
  · rw [e1] at h
    cases rx
    cases ry
    exact ⟨i, j, rfl, rfl, hc, h.now (hr i j _)⟩
  · rw [e1] at h
    exact h.elim
  · rw [e1] at h
    exact h.elim
theorem opk_int0 {f : Value → Value → Sem Value} {g : Int → Int → V} {g' : Int → Int → D} {op : Op2} (ho : OpR X f (rI0 g)) (hr : ∀ i j (H : Hp), Rp K cl H (g i j) (g' i j))
    (h1 : ∀ d e, (∃ i j, d = .int i ∧ e = .int j ∧ op d e = ok (g' i j)) ∨ op d e = none) : OpK X K cl f op := by
  refine ⟨_, ho, fun O H x y d e Q _ rx ry h => ?_⟩
  rcases h1 d e with ⟨i, j, rfl, rfl, e1⟩ | e1
  · rw [e1] at h
    cases rx
    cases ry
    exact ⟨i, j, rfl, rfl, h.now (hr i j _)⟩
  · rw [e1] at h
    exact h.elim
theorem two_ints {op : Op2} {g' : Int → Int → D} (h : ∀ i j, op (.int i) (.int j) = ok (g' i j)) (h2 : ∀ d e, (∀ i j, ¬ (d = .int i ∧ e = .int j)) → op d e = none) : ∀ d e, (∃ i j, d = .int i ∧ e = .int j ∧ op d e = ok (g' i j)) ∨ op d e = none := fun d e => by
  by_cases q : ∃ i j, d = .int i ∧ e = .int j
  · obtain ⟨i, j, rfl, rfl⟩ := q
    exact .inl ⟨i, j, rfl, rfl, h i j⟩
  · exact .inr (h2 d e fun i j z => q ⟨i, j, z⟩)
theorem two_intsC {op : Op2} {C : Int → Int → Prop} {g' : Int → Int → D} (h : ∀ i j, (C i j ∧ op (.int i) (.int j) = ok (g' i j)) ∨ op (.int i) (.int j) = none) (h2 : ∀ d e, (∀ i j, ¬ (d = .int i ∧ e = .int j)) → op d e = none) :
    ∀ d e, (∃ i j, d = .int i ∧ e = .int j ∧ ((C i j ∧ op d e = ok (g' i j)) ∨ op d e = none)) ∨ op d e = none := fun d e => by
  by_cases q : ∃ i j, d = .int i ∧ e = .int j
  · obtain ⟨i, j, rfl, rfl⟩ := q
    exact .inl ⟨i, j, rfl, rfl, h i j⟩
  · exact .inr (h2 d e fun i j z => q ⟨i, j, z⟩)
theorem k_add : OpK X K cl (binaryOp .Add) addI := opk_int0 op_add (fun _ _ _ => .int _) (two_ints (fun _ _ => rfl) fun d e h => by
  cases d <;> cases e <;> first | rfl | exact absurd ⟨rfl, rfl⟩ (h _ _))
theorem k_sub : OpK X K cl (binaryOp .Sub) subI := opk_int0 op_sub (fun _ _ _ => .int _) (two_ints (fun _ _ => rfl) fun d e h => by
  cases d <;> cases e <;> first | rfl | exact absurd ⟨rfl, rfl⟩ (h _ _))
theorem k_lt : OpK X K cl (compareOp .Lt) ltI := opk_int0 op_lt (fun _ _ _ => .bl _) (two_ints (fun _ _ => rfl) fun d e h => by
  cases d <;> cases e <;> first | rfl | exact absurd ⟨rfl, rfl⟩ (h _ _))
theorem k_le : OpK X K cl (compareOp .LtE) leI := opk_int0 op_le (fun _ _ _ => .bl _) (two_ints (fun _ _ => rfl) fun d e h => by
  cases d <;> cases e <;> first | rfl | exact absurd ⟨rfl, rfl⟩ (h _ _))
theorem k_gt : OpK X K cl (compareOp .Gt) gtI := opk_int0 op_gt (fun _ _ _ => .bl _) (two_ints (fun _ _ => rfl) fun d e h => by
  cases d <;> cases e <;> first | rfl | exact absurd ⟨rfl, rfl⟩ (h _ _))
theorem k_ge : OpK X K cl (compareOp .GtE) geI := opk_int0 op_ge (fun _ _ _ => .bl _) (two_ints (fun _ _ => rfl) fun d e h => by
  cases d <;> cases e <;> first | rfl | exact absurd ⟨rfl, rfl⟩ (h _ _))
theorem mulOk.ok {i j : Int} (h : mulOk i j) : IntMulOk i j := by
  rcases h with h | h | h
  · exact CMul.ok (.inl h)
  · exact CMul.ok (.inr h)
  · exact CMulW.ok h
theorem o_mul : OpR X (binaryOp .Mult) (rI mulOk fun i j => .int (i * j)) := opI fun _ _ _ _ _ _ _ hc q => mul_int q hc.ok
theorem o_pow : OpR X (binaryOp .Pow) (rI powOk fun i j => .int (i ^ j.toNat)) := op_pow
theorem o_div : OpR X (binaryOp .FloorDiv) (rI (fun _ j => divOk j) fun i j => .int (i / j)) := op_fdivW
theorem k_mul : OpK X K cl (binaryOp .Mult) mulI := opk_int o_mul (fun _ _ _ => .int _) (two_intsC (fun i j => by
    by_cases h : mulOk i j
    · exact .inl ⟨h, by unfold mulI; simp [h]⟩
    · exact .inr (by unfold mulI; simp [h])) fun d e h => by
  cases d <;> cases e <;> first | rfl | exact absurd ⟨rfl, rfl⟩ (h _ _))
theorem k_div : OpK X K cl (binaryOp .FloorDiv) divI := opk_int o_div (fun _ _ _ => .int _) (two_intsC (fun i j => by
    by_cases h : divOk j
    · exact .inl ⟨h, by unfold divI; simp [h]⟩
    · exact .inr (by unfold divI; simp [h])) fun d e h => by
  cases d <;> cases e <;> first | rfl | exact absurd ⟨rfl, rfl⟩ (h _ _))
theorem k_mod : OpK X K cl (binaryOp .Mod) modI := opk_int op_mod (fun _ _ _ => .int _) (two_intsC (fun i j => by
    by_cases h : 0 < j
    · exact .inl ⟨h, by unfold modI; simp [h]⟩
    · exact .inr (by unfold modI; simp [h])) fun d e h => by
  cases d <;> cases e <;> first | rfl | exact absurd ⟨rfl, rfl⟩ (h _ _))
theorem k_pow : OpK X K cl (binaryOp .Pow) powI := opk_int o_pow (fun _ _ _ => .int _) (two_intsC (fun i j => by
    by_cases h : powOk i j
    · exact .inl ⟨h, by unfold powI; simp [h]⟩
    · exact .inr (by unfold powI; simp [h])) fun d e h => by
  cases d <;> cases e <;> first | rfl | exact absurd ⟨rfl, rfl⟩ (h _ _))
end
/-! ### equality: flat values, None, data -/
mutual
/-- plain data as the model's -/
def D.py : D → PyData
  | .non => .none
  | .bl b => .bool b
  | .int i => .int i
  | .str x => .str x
  | .lst xs => .list (D.pys xs)
  | .tup xs => .tuple (D.pys xs)
  | .obj _ _ => .none
  | .dic _ _ => .none
def D.pys : List D → List PyData
  | [] => []
  | x :: xs => D.py x :: D.pys xs
end
mutual
/-- no objects, no dicts within -/
def D.plain : D → Bool
  | .non => true
  | .bl _ => true
  | .int _ => true
  | .str _ => true
  | .lst xs => D.plains xs
  | .tup xs => D.plains xs
  | .obj _ _ => false
  | .dic _ _ => false
def D.plains : List D → Bool
  | [] => true
  | x :: xs => D.plain x && D.plains xs
end
mutual
theorem rp_dp {K : PySem.W.Frag} {cl : Cl} {H : Hp} : ∀ (d : D) (v : V), Rp K cl H v d → d.plain = true → Dp K H v d.py
  | .non, _, h, _ => by cases h; rw [D.py]; exact .non
  | .bl b, _, h, _ => by cases h; rw [D.py]; exact .bl b
  | .int i, _, h, _ => by cases h; rw [D.py]; exact .int i
  | .str x, _, h, _ => by cases h; rw [D.py]; exact .str x
  | .lst ds, _, h, p => by
    cases h with
    | lst h r =>
      rw [D.plain] at p
      rw [D.py]
      exact .lst h (rps_dp ds _ r p)
  | .tup ds, _, h, p => by
    cases h with
    | tup h r =>
      rw [D.plain] at p
      rw [D.py]
      exact .tup h (rps_dp ds _ r p)
  | .obj _ _, _, _, p => by rw [D.plain] at p; cases p
  | .dic _ _, _, _, p => by rw [D.plain] at p; cases p
theorem rps_dp {K : PySem.W.Frag} {cl : Cl} {H : Hp} : ∀ (ds : List D) (vs : List V), RpA K cl H vs ds → D.plains ds = true → DpAll K H vs (D.pys ds)
  | [], _, h, _ => by cases h; rw [D.pys]; exact .nil
  | d :: ds, _, h, p => by
    cases h with
    | cons a r =>
      rw [D.plains] at p
      have p' := Bool.and_eq_true_iff.mp p
      rw [D.pys]
      exact .cons (rp_dp d _ a p'.1) (rps_dp ds _ r p'.2)
end
mutual
theorem dp_mono {K : PySem.W.Frag} {H H' : Hp} (s : Same H H') : ∀ {v : V} {d : PyData}, Dp K H v d → Dp K H' v d
  | _, _, .non => .non
  | _, _, .bl b => .bl b
  | _, _, .int i => .int i
  | _, _, .str x => .str x
  | _, _, .lst h r => .lst (s.seq h) (dps_mono s r)
  | _, _, .tup h r => .tup (same_sqT s h) (dps_mono s r)
theorem dps_mono {K : PySem.W.Frag} {H H' : Hp} (s : Same H H') : ∀ {vs : List V} {ds : List PyData}, DpAll K H vs ds → DpAll K H' vs ds
  | _, _, .nil => .nil
  | _, _, .cons a r => .cons (dp_mono s a) (dps_mono s r)
end
theorem Rp.dp {K : PySem.W.Frag} {cl : Cl} {O : List Addr} {H : Hp} {v : V} {d : D} (h : Rp K cl (hide O H) v d) (p : d.plain = true) : Dp K H v d.py := dp_mono hide_le (rp_dp d v h p)
/-- == of plain data -/
def eqD : Op2 := fun d e => if d.plain && e.plain && SeqAt.shaped d.py && SeqAt.shaped e.py then ok (.bl (PyData.eqv d.py e.py)) else none
def neD : Op2 := fun d e => if d.plain && e.plain && SeqAt.shaped d.py && SeqAt.shaped e.py then ok (.bl (!PyData.eqv d.py e.py)) else none
def isNon : Op2 := fun d e => match d, e with
  | .non, .non => ok (.bl true)
  | _, .non => ok (.bl false)
  | _, _ => none
def notNon : Op2 := fun d e => match d, e with
  | .non, .non => ok (.bl false)
  | _, .non => ok (.bl true)
  | _, _ => none
/-- x in xs, plain data -/
def inD : Op2 := fun d e => match e with
  | .lst xs => if d.plain && D.plains xs && SeqAt.shaped d.py && SeqAt.shaped (.list (D.pys xs)) then ok (.bl ((D.pys xs).any fun z => PyData.eqv z d.py)) else none
  | _ => none
def ninD : Op2 := fun d e => match e with
  | .lst xs => if d.plain && D.plains xs && SeqAt.shaped d.py && SeqAt.shaped (.list (D.pys xs)) then ok (.bl (!(D.pys xs).any fun z => PyData.eqv z d.py)) else none
  | _ => none
section
variable {X : Cx} {cl : Cl}
theorem k_eqD (hu : X.A.units + 64 < cLine) : OpK X X.K cl (compareOp .Eq) eqD := by
  refine ⟨_, op_eqD hu, fun O H x y d e Q _ rx ry h => ?_⟩
  unfold eqD at h
  split at h
  · next c =>
    simp only [Bool.and_eq_true] at c
    obtain ⟨⟨⟨c1, c2⟩, c3⟩, c4⟩ := c
    exact ⟨d.py, e.py, rx.dp c1, ry.dp c2, c3, c4, h.now (.bl _)⟩
  · exact h.elim
theorem k_neD (hu : X.A.units + 64 < cLine) : OpK X X.K cl (compareOp .NotEq) neD := by
  refine ⟨_, op_neD hu, fun O H x y d e Q _ rx ry h => ?_⟩
  unfold neD at h
  split at h
  · next c =>
    simp only [Bool.and_eq_true] at c
    obtain ⟨⟨⟨c1, c2⟩, c3⟩, c4⟩ := c
    exact ⟨d.py, e.py, rx.dp c1, ry.dp c2, c3, c4, h.now (.bl _)⟩
  · exact h.elim
theorem k_inD (hu : X.A.units + 65 < cLine) : OpK X X.K cl (compareOp .In) inD := by
  refine ⟨_, op_inD hu, fun O H x y d e Q _ rx ry h => ?_⟩
  unfold inD at h
  split at h
  · next xs =>
    split at h
    · next c =>
      simp only [Bool.and_eq_true] at c
      obtain ⟨⟨⟨c1, c2⟩, c3⟩, c4⟩ := c
      exact ⟨d.py, D.pys xs, rx.dp c1, by have q := ry.dp (by rw [D.plain]; exact c2); rw [D.py] at q; exact q, c3, c4, h.now (.bl _)⟩
    · exact h.elim
  · exact h.elim
theorem k_ninD (hu : X.A.units + 65 < cLine) : OpK X X.K cl (compareOp .NotIn) ninD := by
  refine ⟨_, op_notInD hu, fun O H x y d e Q _ rx ry h => ?_⟩
  unfold ninD at h
  split at h
  · next xs =>
    split at h
    · next c =>
      simp only [Bool.and_eq_true] at c
      obtain ⟨⟨⟨c1, c2⟩, c3⟩, c4⟩ := c
      exact ⟨d.py, D.pys xs, rx.dp c1, by have q := ry.dp (by rw [D.plain]; exact c2); rw [D.py] at q; exact q, c3, c4, h.now (.bl _)⟩
    · exact h.elim
  · exact h.elim
theorem k_is {K : PySem.W.Frag} : OpK X K cl (compareOp .Is) isNon := by
  refine ⟨_, op_isN, fun O H x y d e Q _ rx ry h => ?_⟩
  cases e with
  | non =>
    cases ry
    refine ⟨rfl, ?_⟩
    cases rx <;> exact h.now (.bl _)
  | _ => cases d <;> exact h.elim
theorem k_isnot {K : PySem.W.Frag} : OpK X K cl (compareOp .IsNot) notNon := by
  refine ⟨_, op_notN, fun O H x y d e Q _ rx ry h => ?_⟩
  cases e with
  | non =>
    cases ry
    refine ⟨rfl, ?_⟩
    cases rx <;> exact h.now (.bl _)
  | _ => cases d <;> exact h.elim
end
end Dt
namespace Dt
open L2 PySem PySem.Spec PyProof.Rows
/-! ### tests -/
/-- a bool value as a test -/
def dTst (f : S → M (D × S)) : S → M (Bool × S) := fun s => bd (f s) fun p => match p.1 with
  | .bl b => ok (b, p.2)
  | _ => none
/-- truth of any value -/
def truD : D → M Bool
  | .non => ok false
  | .bl b => ok b
  | .int i => ok (i != 0)
  | .str x => if x.length ≤ sizeLine then ok ((x.length : Int) != 0) else none
  | .lst xs => ok (!xs.isEmpty)
  | .tup xs => ok (!xs.isEmpty)
  | _ => none
def dTru (f : S → M (D × S)) : S → M (Bool × S) := fun s => bd (f s) fun p => bd (truD p.1) fun b => ok (b, p.2)
def dAnd (fa fb : S → M (Bool × S)) : S → M (Bool × S) := fun s => bd (fa s) fun p => if p.1 = true then fb p.2 else ok (false, p.2)
def dOr (fa fb : S → M (Bool × S)) : S → M (Bool × S) := fun s => bd (fa s) fun p => if p.1 = true then ok (true, p.2) else fb p.2
def dNot (fa : S → M (Bool × S)) : S → M (Bool × S) := fun s => bd (fa s) fun p => ok (!p.1, p.2)
/-- and, or, not as values (bools) -/
def vAnd (fa fb : S → M (D × S)) : S → M (D × S) := fun s => bd (fa s) fun p => match p.1 with
  | .bl b => if b = true then fb p.2 else ok (.bl false, p.2)
  | _ => none
def vOr (fa fb : S → M (D × S)) : S → M (D × S) := fun s => bd (fa s) fun p => match p.1 with
  | .bl b => if b = true then ok (.bl true, p.2) else fb p.2
  | _ => none
def vNot (fa : S → M (D × S)) : S → M (D × S) := fun s => bd (fa s) fun p => match p.1 with
  | .bl b => ok (.bl (!b), p.2)
  | _ => none
def dIf (ft : S → M (Bool × S)) (fa fb : S → M (D × S)) : S → M (D × S) := fun s => bd (ft s) fun p => if p.1 = true then fa p.2 else fb p.2
section
variable {X : Cx} {K : PySem.W.Frag} {cl : Cl} {pos : Pos} {a b c e : Expr} {rest : List Expr} {fa fb : S → M (D × S)} {ta tb tc : S → M (Bool × S)}
theorem tst_read : ∀ σ H Q, TTof K cl (dTst fa) σ H Q → tB (TEof K cl fa) σ H Q := by
  rintro σ H Q ⟨w, L, sd, W, h⟩
  refine ⟨w, L, sd, W, PostE.bd botT h fun r s1 h v H1 st1 W1 rr => ?_⟩
  cases r with
  | bl b =>
    cases rr
    exact ⟨b, rfl, h H1 st1 W1⟩
  | _ => exact h.elim
/-- a test by its value -/
theorem d_tst (h : PE X e (TEof K cl fa)) (he : ∀ whole, isTrue e X.env whole = (do let v ← whole; standAt e.pos; holding [v] (truthy v)) := by intro _; rfl) : PT X e (TTof K cl (dTst fa)) := iT (pt_val h he) tst_read
theorem d_tcmp {op : CmpOp} {g : Op2} (ho : OpK X K cl (compareOp op) g) (ha : PE X a (TEof K cl fa)) (hb : PE X b (TEof K cl fb)) (hm : behindInMarks op b = false := by first | exact nomark _ | rfl) : PT X (.Compare a [op] [b] pos) (TTof K cl (dTst (dBin g fa fb))) := by
  obtain ⟨r, h1, h2⟩ := ho.it
  refine iT (pt_cmpR h1 ha hb hm) fun σ H Q h => ?_
  obtain ⟨w, L, sd, W, h⟩ := h
  refine bin_read h2 σ H _ ⟨w, L, sd, W, PostE.bd botT h fun r s1 h v H1 st1 W1 rr => ?_⟩
  cases r with
  | bl b =>
    cases rr
    exact ⟨b, rfl, h H1 st1 W1⟩
  | _ => exact h.elim
theorem truV_of {H : Hp} {O : List Addr} {v : V} {d : D} {b : Bool} (r : Rp K cl (hide O H) v d) (h : truD d = ok b) : TruV K v H b := by
  cases r with
  | non => cases h; rfl
  | bl b => cases h; rfl
  | int i => cases h; rfl
  | str x =>
    have h : (if x.length ≤ sizeLine then ok ((x.length : Int) != 0) else none) = ok b := h
    by_cases c : x.length ≤ sizeLine
    · rw [if_pos c] at h; cases h; exact ⟨c, rfl⟩
    · rw [if_neg c] at h; cases h
  | lst s r =>
    cases h
    refine .inl ⟨_, hide_le.seq s, ?_⟩
    cases r <;> rfl
  | tup s r =>
    cases h
    refine .inr (.inl ⟨_, same_sqT hide_le s, ?_⟩)
    cases r <;> rfl
  | obj _ _ _ _ => cases h
  | dic _ _ _ => cases h
theorem d_tru (h : PE X e (TEof X.K cl fa)) (he : ∀ whole, isTrue e X.env whole = (do let v ← whole; standAt e.pos; holding [v] (truthy v)) := by intro _; rfl) : PT X e (TTof X.K cl (dTru fa)) := by
  refine iT (pt_truth h he) ?_
  rintro σ H Q ⟨w, L, sd, W, h⟩
  refine ⟨w, L, sd, W, PostE.bd botT h fun r s1 h v H1 st1 W1 rr => ?_⟩
  generalize e1 : truD r = m at h
  match m, h with
  | none, h => exact h.elim
  | some (.ex _), h => exact h.elim
  | some (.ok b), h => exact ⟨b, truV_of rr e1, h H1 st1 W1⟩
theorem and_read : ∀ σ H Q, TTof K cl (dAnd ta tb) σ H Q → tAnd (TTof K cl ta) (TTof K cl tb) σ H Q := by
  rintro σ H Q ⟨w, L, sd, W, h⟩
  refine ⟨w, L, sd, W, PostT.bd botT h fun r s1 h H1 st1 W1 => ?_⟩
  cases r with
  | true =>
    refine iteT ⟨w, L, s1, W1, ?_⟩
    match (tb s1 : M (Bool × S)), h with
    | none, h => exact h.elim
    | some (.ex _), h => exact h.elim
    | some (.ok (b, s2)), h => exact fun H2 st2 W2 => h H2 (st1.trans st2) W2
  | false => exact iteF (h H1 st1 W1)
theorem or_read : ∀ σ H Q, TTof K cl (dOr ta tb) σ H Q → tOr (TTof K cl ta) (TTof K cl tb) σ H Q := by
  rintro σ H Q ⟨w, L, sd, W, h⟩
  refine ⟨w, L, sd, W, PostT.bd botT h fun r s1 h H1 st1 W1 => ?_⟩
  cases r with
  | false =>
    refine iteF ⟨w, L, s1, W1, ?_⟩
    match (tb s1 : M (Bool × S)), h with
    | none, h => exact h.elim
    | some (.ex _), h => exact h.elim
    | some (.ok (b, s2)), h => exact fun H2 st2 W2 => h H2 (st1.trans st2) W2
  | true => exact iteT (h H1 st1 W1)
theorem d_and1 (ha : PT X a (TTof K cl ta)) : PW X (.BoolOp .And [a] pos) (TTof K cl ta) := pw_and1 ha
theorem d_or1 (ha : PT X a (TTof K cl ta)) : PW X (.BoolOp .Or [a] pos) (TTof K cl ta) := pw_or1 ha
theorem d_and (ha : PT X a (TTof K cl ta)) (hb : PW X (.BoolOp .And (b :: rest) pos) (TTof K cl tb)) : PW X (.BoolOp .And (a :: b :: rest) pos) (TTof K cl (dAnd ta tb)) := iW (pw_and ha hb) and_read
theorem d_or (ha : PT X a (TTof K cl ta)) (hb : PW X (.BoolOp .Or (b :: rest) pos) (TTof K cl tb)) : PW X (.BoolOp .Or (a :: b :: rest) pos) (TTof K cl (dOr ta tb)) := iW (pw_or ha hb) or_read
theorem d_not (ha : PT X a (TTof K cl ta)) : PT X (.UnaryOp .Not a pos) (TTof K cl (dNot ta)) := by
  refine iT (pt_not ha) ?_
  rintro σ H Q ⟨w, L, sd, W, h⟩
  exact ⟨w, L, sd, W, PostT.bd botT h fun r s1 h H1 st1 W1 => h H1 st1 W1⟩
theorem PostE.on {w : Wf} {L : List Addr} {σ : L2.St} {H H1 : Hp} {Q : VK} {m : M (D × S)} (h : PostE K cl w L σ H Q m) (st1 : Step w L H L H1) : PostE K cl w L σ H1 Q m := by
  match m, h with
  | none, h => exact h.elim
  | some (.ex _), h => exact h.elim
  | some (.ok (b, s2)), h => exact fun v H2 st2 W2 r => h v H2 (st1.trans st2) W2 r
theorem d_vone {op : BoolOp} (ha : PE X a (TEof K cl fa)) : PE X (.BoolOp op [a] pos) (TEof K cl fa) := pe_one ha
theorem d_vand (ha : PE X a (TEof K cl fa)) (hb : PE X (.BoolOp .And (b :: rest) pos) (TEof K cl fb)) : PE X (.BoolOp .And (a :: b :: rest) pos) (TEof K cl (vAnd fa fb)) := by
  refine iE (pe_and ha hb) ?_
  rintro σ H Q ⟨w, L, sd, W, h⟩
  refine ⟨w, L, sd, W, PostE.bd botE h fun r s1 h v H1 st1 W1 rr => ?_⟩
  cases r with
  | bl b =>
    cases rr
    refine ⟨b, rfl, ?_⟩
    cases b with
    | true => exact iteT ⟨w, L, s1, W1, PostE.on h st1⟩
    | false => exact iteF (h _ H1 st1 W1 (.bl _))
  | _ => exact h.elim
theorem d_vor (ha : PE X a (TEof K cl fa)) (hb : PE X (.BoolOp .Or (b :: rest) pos) (TEof K cl fb)) : PE X (.BoolOp .Or (a :: b :: rest) pos) (TEof K cl (vOr fa fb)) := by
  refine iE (pe_or ha hb) ?_
  rintro σ H Q ⟨w, L, sd, W, h⟩
  refine ⟨w, L, sd, W, PostE.bd botE h fun r s1 h v H1 st1 W1 rr => ?_⟩
  cases r with
  | bl b =>
    cases rr
    refine ⟨b, rfl, ?_⟩
    cases b with
    | false => exact iteF ⟨w, L, s1, W1, PostE.on h st1⟩
    | true => exact iteT (h _ H1 st1 W1 (.bl _))
  | _ => exact h.elim
theorem d_vnot (ha : PE X a (TEof K cl fa)) : PE X (.UnaryOp .Not a pos) (TEof K cl (vNot fa)) := by
  refine iE (pe_not ha) ?_
  rintro σ H Q ⟨w, L, sd, W, h⟩
  refine ⟨w, L, sd, W, PostE.bd botE h fun r s1 h v H1 st1 W1 rr => ?_⟩
  cases r with
  | bl b =>
    cases rr
    exact ⟨b, rfl, h _ H1 st1 W1 (.bl _)⟩
  | _ => exact h.elim
theorem d_ifx (hc : PT X c (TTof K cl tc)) (ha : PE X a (TEof K cl fa)) (hb : PE X b (TEof K cl fb)) : PE X (.IfExp c a b pos) (TEof K cl (dIf tc fa fb)) := by
  refine iE (pe_ifExp hc ha hb) ?_
  rintro σ H Q ⟨w, L, sd, W, h⟩
  refine ⟨w, L, sd, W, PostT.bd botE h fun r s1 h H1 st1 W1 => ?_⟩
  cases r with
  | true => exact iteT ⟨w, L, s1, W1, PostE.on h st1⟩
  | false => exact iteF ⟨w, L, s1, W1, PostE.on h st1⟩
end
/-! ### arguments, displays -/
def aNil : S → M (List D × S) := fun s => ok ([], s)
def aCons (fa : S → M (D × S)) (fr : S → M (List D × S)) : S → M (List D × S) := fun s => bd (fa s) fun p => bd (fr p.2) fun q => ok (p.1 :: q.1, q.2)
def dTup (fr : S → M (List D × S)) : S → M (D × S) := fun s => bd (fr s) fun p => if p.1.length ≤ sizeLine then ok (.tup p.1, p.2) else none
def dLst (fr : S → M (List D × S)) : S → M (D × S) := fun s => bd (fr s) fun p => if p.1.length ≤ sizeLine then ok (.lst p.1, p.2) else none
section
variable {X : Cx} {K : PySem.W.Frag} {cl : Cl} {pos : Pos} {e : Expr} {es : List Expr} {fa : S → M (D × S)} {fr : S → M (List D × S)}
theorem nil_read : ∀ σ H Q, TAof K cl aNil σ H Q → tNil σ H Q := by
  rintro σ H Q ⟨w, L, sd, W, h⟩
  exact h [] H .refl W .nil
theorem cons_read : ∀ σ H Q, TAof K cl (aCons fa fr) σ H Q → tCons (TEof K cl fa) (TAof K cl fr) σ H Q := by
  rintro σ H Q ⟨w, L, sd, W, h⟩
  refine ⟨w, L, sd, W, PostE.bd botA h fun r s1 h v H1 st1 W1 rr => ?_⟩
  refine ⟨w, L, s1, W1, PostA.bd botA h fun rs s2 h vs H2 st2 W2 rrs => ?_⟩
  exact h (v :: vs) H2 (st1.trans st2) W2 (.cons (rr.mono (st2.sn W2)) rrs)
theorem d_nil : PA X [] (TAof K cl aNil) := iA pa_nil nil_read
theorem d_cons (ha : PE X e (TEof K cl fa)) (hr : PA X es (TAof K cl fr)) (hs : starEach (e :: es) X.env = (false, eval e X.env) :: starEach es X.env := by rfl) : PA X (e :: es) (TAof K cl (aCons fa fr)) := iA (pa_cons ha hr hs) cons_read
theorem d_tup {k : Nat} (ha : PA X es (TAof K cl fr)) : PE X (.Tuple es k pos) (TEof K cl (dTup fr)) := by
  refine iE (pe_tup ha) ?_
  rintro σ H Q ⟨w, L, sd, W, h⟩
  refine ⟨w, L, sd, W, PostA.bd botE h fun rs s1 h vs H1 st1 W1 rrs => ?_⟩
  split at h
  · next c =>
    refine ⟨by rw [rrs.len]; exact c, fun p np => ?_⟩
    have sm := same_upd (o := .tup vs) np
    exact h (.ref p) _ (st1.trans (.of_same sm)) (W1.ext sm) (.tup (.inl (.inl (hide_some.mpr ⟨W1.new_ne np, upd_same⟩))) (rrs.mono ((Step.of_same sm).sn W1)))
  · exact h.elim
/-- a new list as one's own -/
theorem f_lst (ha : PA X es (TAof K cl fr)) : PE X (.List es pos) (TFof K cl (dLst fr)) := by
  refine iE (pe_lst ha) ?_
  rintro σ H Q ⟨w, L, sd, W, h⟩
  refine ⟨w, L, sd, W, PostA.bd botF h fun rs s1 h vs H1 st1 W1 rrs => ?_⟩
  split at h
  · next c =>
    refine ⟨by rw [rrs.len]; exact c, fun p np => ?_⟩
    have sm := same_upd (o := .lst vs) np
    have st2 : Step w L H1 (p :: L) (upd H1 p (.lst vs)) := ⟨(Step.of_same (w := w) (L := L) sm).keep, (Step.of_same (w := w) (L := L) sm).alv, fun a ha => by
      (rcases List.mem_cons.mp ha with rfl | ha)
      · exact .inr np
      · exact .inl ha⟩
    have W2 := W1.made sm np (by rw [upd_same]; simp)
    exact h p _ (st1.trans st2) (W1.new_ne np) (W1.ext sm) W2 ⟨vs, upd_same, rrs.mono (st2.seen W1.sub)⟩
  · exact h.elim
/-- a new list as a value -/
theorem d_of (h : PE X e (TFof K cl fa)) : PE X e (TEof K cl fa) := by
  refine iE h ?_
  rintro σ H Q ⟨w, L, sd, W, h⟩
  refine ⟨w, L, sd, W, ?_⟩
  match (fa sd : M (D × S)), h with
  | none, h => exact h.elim
  | some (.ex _), h => exact h.elim
  | some (.ok (r, s1)), h =>
    intro p H1 st np W1 W2 ho
    refine h (.ref p) H1 ⟨st.keep, st.alv, fun _ z => .inl z⟩ W1 (ho.rp np ?_)
    exact hide_sub fun _ z => List.mem_cons_of_mem _ z
theorem d_lst (ha : PA X es (TAof K cl fr)) : PE X (.List es pos) (TEof K cl (dLst fr)) := d_of (f_lst ha)
end
end Dt
namespace Dt
open L2 PySem PySem.Spec PyProof.Rows
/-! ### calls of what is built in -/
abbrev OpN := List D → M D
def dCall (g : OpN) (fr : S → M (List D × S)) : S → M (D × S) := fun s => bd (fr s) fun p => bd (g p.1) fun r => ok (r, p.2)
def CallD (K : PySem.W.Frag) (cl : Cl) (r : List V → Hp → VK → Prop) (g : OpN) : Prop := ∀ (O : List Addr) (H : Hp) (xs : List V) (ds : List D) (Q : VK), (∀ a ∈ O, H a ≠ none) → RpA K cl (hide O H) xs ds → Fin1 K cl O H Q (g ds) → r xs H Q
structure CallK (X : Cx) (K : PySem.W.Frag) (cl : Cl) (f : Value) (g : OpN) : Prop where
  it : ∃ r, CallR X f r ∧ CallD K cl r g
section
variable {X : Cx} {K : PySem.W.Frag} {cl : Cl} {pos p : Pos} {e : Expr} {es : List Expr} {fr : S → M (List D × S)} {g : OpN} {x : Str} {id T : String}
theorem call_read {r : List V → Hp → VK → Prop} (hd : CallD K cl r g) : ∀ σ H Q, TEof K cl (dCall g fr) σ H Q → tCB r (TAof K cl fr) σ H Q := by
  rintro σ H Q ⟨w, L, sd, W, h⟩
  refine ⟨w, L, sd, W, PostA.bd botE h fun rs s1 h vs H1 st1 W1 rrs => ?_⟩
  exact hd (L ++ w.O0) H1 vs rs Q W1.alive rrs (h.fin st1 W1)
theorem d_callB (hc : CallK X K cl (.builtin id) g) (hm : X.mg x = none) (hv : bootBuiltins x = some (.builtin id)) (ha : PA X (e :: es) (TAof K cl fr)) (hg : Gl X x := by rfl) (hn : x ≠ "__name__" := by decide) (hdb : (x == ("__debug__" : Str)) = false := by decide)
    (he : starEach (e :: es) X.env = (false, eval e X.env) :: starEach es X.env := by rfl) (hpl : (backTo pos (starEach es X.env)).any (·.1) = false := by rfl) : PE X (.Call (.Name x p) (e :: es) [] pos) (TEof K cl (dCall g fr)) := by
  obtain ⟨r, h1, h2⟩ := hc.it
  exact iE (pe_callB h1 hg hm hv ha hn hdb he hpl) (call_read h2)
theorem d_callT (hc : CallK X K cl (.type T) g) (hm : X.mg x = none) (hv : bootBuiltins x = some (.type T)) (ha : PA X (e :: es) (TAof K cl fr)) (hg : Gl X x := by rfl) (hn : x ≠ "__name__" := by decide) (hdb : (x == ("__debug__" : Str)) = false := by decide)
    (he : starEach (e :: es) X.env = (false, eval e X.env) :: starEach es X.env := by rfl) (hpl : (backTo pos (starEach es X.env)).any (·.1) = false := by rfl) : PE X (.Call (.Name x p) (e :: es) [] pos) (TEof K cl (dCall g fr)) := by
  obtain ⟨r, h1, h2⟩ := hc.it
  exact iE (pe_callTy h1 hg hm hv ha hn hdb he hpl) (call_read h2)
end
def absN : OpN := fun ds => match ds with
  | [.int i] => ok (.int (if i < 0 then -i else i))
  | _ => none
def max2N : OpN := fun ds => match ds with
  | [.int i, .int j] => ok (.int (if j > i then j else i))
  | _ => none
def min2N : OpN := fun ds => match ds with
  | [.int i, .int j] => ok (.int (if j < i then j else i))
  | _ => none
def intN : OpN := fun ds => match ds with
  | [.int i] => ok (.int i)
  | [.bl b] => ok (.int (if b then 1 else 0))
  | _ => none
def strN : OpN := fun ds => match ds with
  | [.int i] => if i.natAbs.log2 < 1920 then ok (.str (toString i)) else none
  | _ => none
def lenN : OpN := fun ds => match ds with
  | [.lst xs] => ok (.int xs.length)
  | [.tup xs] => ok (.int xs.length)
  | [.str x] => if x.length ≤ sizeLine then ok (.int x.length) else none
  | _ => none
def divmodN : OpN := fun ds => match ds with
  | [.int i, .int j] => if divOk j then ok (.tup [.int (i / j), .int (i % j)]) else none
  | _ => none
/-- a list of ints -/
def ints? : List D → Option (List Int)
  | [] => some []
  | .int i :: r => (ints? r).map (i :: ·)
  | _ => none
theorem ints?_map : ∀ ns : List Int, ints? (ns.map D.int) = some ns
  | [] => rfl
  | n :: ns => by rw [List.map_cons, ints?, ints?_map ns]; rfl
theorem of_ints? : ∀ {ds : List D} {ns : List Int}, ints? ds = some ns → ds = ns.map D.int
  | [], _, h => by cases h; rfl
  | d :: ds, ns, h => by
    cases d with
    | int i =>
      rw [ints?] at h
      cases e : ints? ds with
      | none => (rw [e] at h; cases h)
      | some ms =>
        rw [e] at h
        cases h
        rw [of_ints? e]
        rfl
    | _ => cases h
def sumN : OpN := fun ds => match ds with
  | [.lst xs] => match ints? xs with
    | some ns => ok (.int ns.sum)
    | none => none
  | _ => none
/-- greatest, least of a list that is not empty -/
def maxL : List Int → Int
  | [] => 0
  | [x] => x
  | x :: r => max x (maxL r)
def minL : List Int → Int
  | [] => 0
  | [x] => x
  | x :: r => min x (minL r)
theorem maxL_spec : ∀ (ns : List Int), ns ≠ [] → maxL ns ∈ ns ∧ ∀ y ∈ ns, y ≤ maxL ns
  | [], h => absurd rfl h
  | [x], _ => by simp [maxL]
  | x :: y :: r, _ => by
    obtain ⟨h1, h2⟩ := maxL_spec (y :: r) (by simp)
    rw [maxL]
    · constructor
      · by_cases c : x ≤ maxL (y :: r)
        · rw [Int.max_eq_right c]; exact List.mem_cons_of_mem _ h1
        · rw [Int.max_eq_left (by omega)]; exact List.mem_cons_self
      · intro z hz
        (rcases List.mem_cons.mp hz with rfl | hz)
        · exact Int.le_max_left _ _
        · exact Int.le_trans (h2 z hz) (Int.le_max_right _ _)
    · simp
theorem minL_spec : ∀ (ns : List Int), ns ≠ [] → minL ns ∈ ns ∧ ∀ y ∈ ns, minL ns ≤ y
  | [], h => absurd rfl h
  | [x], _ => by simp [minL]
  | x :: y :: r, _ => by
    obtain ⟨h1, h2⟩ := minL_spec (y :: r) (by simp)
    rw [minL]
    · constructor
      · by_cases c : x ≤ minL (y :: r)
        · rw [Int.min_eq_left c]; exact List.mem_cons_self
        · rw [Int.min_eq_right (by omega)]; exact List.mem_cons_of_mem _ h1
      · intro z hz
        (rcases List.mem_cons.mp hz with rfl | hz)
        · exact Int.min_le_left _ _
        · exact Int.le_trans (Int.min_le_right _ _) (h2 z hz)
    · simp
def maxN : OpN := fun ds => match ds with
  | [.lst xs] => match ints? xs with
    | some (n :: ns) => ok (.int (maxL (n :: ns)))
    | _ => none
  | _ => none
def minN : OpN := fun ds => match ds with
  | [.lst xs] => match ints? xs with
    | some (n :: ns) => ok (.int (minL (n :: ns)))
    | _ => none
  | _ => none
/-- list(xs), tuple(xs) of a list or a tuple -/
def listN : OpN := fun ds => match ds with
  | [.lst xs] => ok (.lst xs)
  | [.tup xs] => ok (.lst xs)
  | _ => none
def tupleN : OpN := fun ds => match ds with
  | [.lst xs] => ok (.tup xs)
  | [.tup xs] => ok (.tup xs)
  | _ => none
section
variable {X : Cx} {K : PySem.W.Frag} {cl : Cl}
theorem Fin1.new {O : List Addr} {H : Hp} {Q : VK} {d : D} {p : Addr} {u : HO} (h : Fin1 K cl O H Q (ok d)) (np : H p = none) (r : Rp K cl (hide O (upd H p u)) (.ref p) d) : Q (.ref p) (upd H p u) := h _ _ (same_upd np) r
theorem hide_new {O : List Addr} {H : Hp} {p : Addr} {u : HO} (al : ∀ a ∈ O, H a ≠ none) (np : H p = none) : hide O (upd H p u) p = some u := hide_some.mpr ⟨fun z => al p z np, upd_same⟩
theorem hide_upd {O : List Addr} {H : Hp} {p : Addr} {u : HO} (np : H p = none) : Same (hide O H) (hide O (upd H p u)) := fun b o e =>
  let ⟨n, e⟩ := hide_some.mp e
  hide_some.mpr ⟨n, same_upd np b o e⟩
theorem c_abs : CallK X K cl (.builtin "abs") absN := by
  refine ⟨_, call_abs, fun O H xs ds Q al r h => ?_⟩
  unfold absN at h
  split at h
  · obtain ⟨v, rfl, rv⟩ := r.one
    cases rv
    exact ⟨_, rfl, h.now (.int _)⟩
  · exact h.elim
theorem c_max2 (hc : X.calm = true := by rfl) : CallK X K cl (.builtin "max") max2N := by
  refine ⟨_, call_max2 hc, fun O H xs ds Q al r h => ?_⟩
  unfold max2N at h
  split at h
  · obtain ⟨v, u, rfl, rv, ru⟩ := r.two
    cases rv
    cases ru
    exact ⟨_, _, rfl, h.now (.int _)⟩
  · exact h.elim
theorem c_min2 (hc : X.calm = true := by rfl) : CallK X K cl (.builtin "min") min2N := by
  refine ⟨_, call_min2 hc, fun O H xs ds Q al r h => ?_⟩
  unfold min2N at h
  split at h
  · obtain ⟨v, u, rfl, rv, ru⟩ := r.two
    cases rv
    cases ru
    exact ⟨_, _, rfl, h.now (.int _)⟩
  · exact h.elim
theorem c_int : CallK X K cl (.type "int") intN := by
  refine ⟨_, call_int1, fun O H xs ds Q al r h => ?_⟩
  unfold intN at h
  split at h
  · obtain ⟨v, rfl, rv⟩ := r.one
    cases rv
    exact .inl ⟨_, rfl, h.now (.int _)⟩
  · obtain ⟨v, rfl, rv⟩ := r.one
    cases rv
    exact .inr ⟨_, rfl, h.now (.int _)⟩
  · exact h.elim
theorem c_str : CallK X K cl (.type "str") strN := by
  refine ⟨_, call_str_int, fun O H xs ds Q al r h => ?_⟩
  unfold strN at h
  split at h
  · obtain ⟨v, rfl, rv⟩ := r.one
    cases rv
    split at h
    · next c => exact ⟨_, rfl, c, h.now (.str _)⟩
    · exact h.elim
  · exact h.elim
theorem c_len : CallK X X.K cl (.builtin "len") lenN := by
  refine ⟨_, call_len, fun O H xs ds Q al r h => ?_⟩
  unfold lenN at h
  split at h
  · obtain ⟨v, rfl, rv⟩ := r.one
    cases rv with
    | lst s r =>
      refine ⟨_, _, rfl, .inl ⟨_, hide_le.seq s, rfl⟩, ?_⟩
      rw [r.len]
      exact h.now (.int _)
  · obtain ⟨v, rfl, rv⟩ := r.one
    cases rv with
    | tup s r =>
      refine ⟨_, _, rfl, .inr ⟨_, same_sqT hide_le s, rfl⟩, ?_⟩
      rw [r.len]
      exact h.now (.int _)
  · obtain ⟨v, rfl, rv⟩ := r.one
    cases rv
    split at h
    · next c => exact ⟨_, _, rfl, ⟨c, rfl⟩, h.now (.int _)⟩
    · exact h.elim
  · exact h.elim
/-- divmod by a positive divisor below 2 ^ 9000 -/
theorem call_dm : CallR X (.builtin "divmod") (fun xs H Q => ∃ i j, xs = [.int i, .int j] ∧ divOk j ∧ ∀ p, H p = none → Q (.ref p) (upd H p (.tup [.int (i / j), .int (i % j)]))) := by
  (intro pins s σ H xs us Q I r h)
  obtain ⟨i, j, rfl, ⟨pos, few⟩, q⟩ := h
  obtain ⟨u1, u2, rfl, ⟨t1, rfl⟩, ⟨t2, rfl⟩⟩ := vals2 r
  refine divmod_int (by omega) ?_ (.inl (PyProof.noPylong_of_log2 few))
  (rw [Int.fdiv_eq_ediv_of_nonneg i (by omega), Int.fmod_eq_emod_of_nonneg i (by omega)])
  refine ⟨.ref s.heap.objs.size, _, ?_, rfl, q _ (I.hok.fresh (Nat.le_refl _))⟩
  have two : ([.int (i / j), .int (i % j)] : List V).length ≤ sizeLine := by
    show 2 ≤ 2 ^ 24
    decide
  exact I.laid (fun b o e => Heap.get?_push_of_some _ e) (Nat.le_refl _) ⟨two, [.int (i / j) s.toks, .int (i % j) (s.toks + 1)], .cons ⟨_, rfl⟩ (.cons ⟨_, rfl⟩ .nil), _, Heap.get?_push_size s.heap rfl, rfl, 0, rfl⟩
theorem c_divmod : CallK X K cl (.builtin "divmod") divmodN := by
  refine ⟨_, call_dm, fun O H xs ds Q al r h => ?_⟩
  unfold divmodN at h
  split at h
  · obtain ⟨v, u, rfl, rv, ru⟩ := r.two
    cases rv
    cases ru
    split at h
    · next c =>
      refine ⟨_, _, rfl, c, fun p np => h.new np (.tup (.inl (.inl (hide_new al np))) (.cons (.int _) (.cons (.int _) .nil)))⟩
    · exact h.elim
  · exact h.elim
theorem c_sum (hc : X.calm = true := by rfl) : CallK X X.K cl (.builtin "sum") sumN := by
  refine ⟨_, cr_sum hc, fun O H xs ds Q al r h => ?_⟩
  unfold sumN at h
  split at h
  · obtain ⟨v, rfl, rv⟩ := r.one
    split at h
    · next ns e =>
      rw [of_ints? e] at rv
      cases rv with
      | lst s r =>
        rw [r.ints] at s
        exact ⟨_, ns, rfl, hide_le.seq s, h.now (.int _)⟩
    · exact h.elim
  · exact h.elim
theorem c_max (hc : X.calm = true := by rfl) : CallK X X.K cl (.builtin "max") maxN := by
  refine ⟨_, cr_max hc, fun O H xs ds Q al r h => ?_⟩
  unfold maxN at h
  split at h
  · obtain ⟨v, rfl, rv⟩ := r.one
    split at h
    · next n ns e =>
      rw [of_ints? e] at rv
      cases rv with
      | lst s r =>
        rw [r.ints] at s
        refine ⟨_, n :: ns, rfl, hide_le.seq s, by simp, fun m hm hy => ?_⟩
        obtain ⟨h1, h2⟩ := maxL_spec (n :: ns) (by simp)
        have e2 : m = maxL (n :: ns) := Int.le_antisymm (h2 m hm) (hy _ h1)
        rw [e2]
        exact h.now (.int _)
    · exact h.elim
  · exact h.elim
theorem c_min (hc : X.calm = true := by rfl) : CallK X X.K cl (.builtin "min") minN := by
  refine ⟨_, cr_min hc, fun O H xs ds Q al r h => ?_⟩
  unfold minN at h
  split at h
  · obtain ⟨v, rfl, rv⟩ := r.one
    split at h
    · next n ns e =>
      rw [of_ints? e] at rv
      cases rv with
      | lst s r =>
        rw [r.ints] at s
        refine ⟨_, n :: ns, rfl, hide_le.seq s, by simp, fun m hm hy => ?_⟩
        obtain ⟨h1, h2⟩ := minL_spec (n :: ns) (by simp)
        have e2 : m = minL (n :: ns) := Int.le_antisymm (hy _ h1) (h2 m hm)
        rw [e2]
        exact h.now (.int _)
    · exact h.elim
  · exact h.elim
theorem c_list : CallK X X.K cl (.type "list") listN := by
  refine ⟨_, call_list_of, fun O H xs ds Q al r h => ?_⟩
  unfold listN at h
  split at h
  · obtain ⟨v, rfl, rv⟩ := r.one
    cases rv with
    | lst s r => exact ⟨_, _, rfl, .inl (hide_le.seq s), fun p np => h.new np (.lst (.inl (.inl (hide_new al np))) (r.mono (hide_upd np)))⟩
  · obtain ⟨v, rfl, rv⟩ := r.one
    cases rv with
    | tup s r => exact ⟨_, _, rfl, .inr (same_sqT hide_le s), fun p np => h.new np (.lst (.inl (.inl (hide_new al np))) (r.mono (hide_upd np)))⟩
  · exact h.elim
theorem c_tuple : CallK X X.K cl (.type "tuple") tupleN := by
  refine ⟨_, call_tuple_of, fun O H xs ds Q al r h => ?_⟩
  unfold tupleN at h
  split at h
  · obtain ⟨v, rfl, rv⟩ := r.one
    cases rv with
    | lst s r => exact ⟨_, _, rfl, .inl ⟨hide_le.seq s, fun p np => h.new np (.tup (.inl (.inl (hide_new al np))) (r.mono (hide_upd np)))⟩⟩
  · obtain ⟨v, rfl, rv⟩ := r.one
    cases rv with
    | tup s r => exact ⟨_, _, rfl, .inr ⟨same_sqT hide_le s, h.now (.tup s r)⟩⟩
  · exact h.elim
end
/-! ### repr of plain lists and tuples -/
mutual
/-- a bound for the text of plain data -/
def D.bound : D → Nat
  | .non => 4
  | .bl _ => 5
  | .int i => i.natAbs.log2 + 2
  | .str x => 10 * x.length + 2
  | .lst xs => D.bounds xs + 2
  | .tup xs => D.bounds xs + 3
  | .obj _ _ => 0
  | .dic _ _ => 0
def D.bounds : List D → Nat
  | [] => 0
  | x :: xs => D.bound x + 2 + D.bounds xs
end
def reprN : OpN := fun ds => match ds with
  | [.lst xs] => if D.plains xs ∧ (D.py (.lst xs)).showable = true ∧ (D.py (.lst xs)).depth ≤ 60 ∧ (D.py (.lst xs)).shown.length ≤ sizeLine then ok (.str (D.py (.lst xs)).shown) else none
  | [.tup xs] => if D.plains xs ∧ (D.py (.tup xs)).showable = true ∧ (D.py (.tup xs)).depth ≤ 60 ∧ (D.py (.tup xs)).shown.length ≤ sizeLine then ok (.str (D.py (.tup xs)).shown) else none
  | _ => none
mutual
theorem nodict_py : ∀ d : D, d.py.hasDict = false
  | .non => by rw [D.py, PyData.hasDict]
  | .bl _ => by rw [D.py, PyData.hasDict]
  | .int _ => by rw [D.py, PyData.hasDict]
  | .str _ => by rw [D.py, PyData.hasDict]
  | .lst xs => by rw [D.py, PyData.hasDict]; exact nodict_pys xs
  | .tup xs => by rw [D.py, PyData.hasDict]; exact nodict_pys xs
  | .obj _ _ => by rw [D.py, PyData.hasDict]
  | .dic _ _ => by rw [D.py, PyData.hasDict]
theorem nodict_pys : ∀ ds : List D, PyData.hasDictAll (D.pys ds) = false
  | [] => by rw [D.pys, PyData.hasDictAll]
  | d :: ds => by rw [D.pys, PyData.hasDictAll, nodict_py d, nodict_pys ds]; rfl
end
/-- repr of what reads as d -/
def rRepr (K : PySem.W.Frag) : List V → Hp → VK → Prop := fun xs H Q => ∃ (a : Addr) (d : PyData), xs = [.ref a] ∧ Dp K H (.ref a) d ∧ d.showable = true ∧ d.hasDict = false ∧ d.depth ≤ 60 ∧ d.shown.length ≤ sizeLine ∧ Q (.str d.shown) H
section
variable {X : Cx} {cl : Cl}
theorem call_repr (hg : X.A.guards = some []) (hu : X.A.units + 64 < cLine) : CallR X (.builtin "repr") (rRepr X.K) := by
  (intro pins s σ H xs us Q I r h)
  obtain ⟨a, d, rfl, hd, h1, h2, h3, h4, q⟩ := h
  (obtain ⟨u, rfl, ru⟩ := vals1 r)
  cases ru
  obtain ⟨as, rd⟩ := Dp.reads I d _ _ hd rfl
  refine repr_of_reads' rd h1 (PyData.noDict_hsm h2) hg (by omega) (fun _ _ e => e) (fun h' u tk hk => ?_) h4
  exact ⟨.str d.shown, H, I.kept hk, ⟨_, rfl⟩, q⟩
theorem c_repr (hg : X.A.guards = some []) (hu : X.A.units + 64 < cLine) : CallK X X.K cl (.builtin "repr") reprN := by
  refine ⟨_, call_repr hg hu, fun O H xs ds Q al r h => ?_⟩
  unfold reprN at h
  split at h
  · next ys =>
    obtain ⟨v, rfl, rv⟩ := r.one
    split at h
    · next c =>
      obtain ⟨c1, c2, c3, c4⟩ := c
      have hd : Dp X.K H v (D.py (.lst ys)) := rv.dp (by rw [D.plain]; exact c1)
      cases rv with
      | lst s r => exact ⟨_, _, rfl, hd, c2, nodict_py _, c3, c4, h.now (.str _)⟩
    · exact h.elim
  · next ys =>
    obtain ⟨v, rfl, rv⟩ := r.one
    split at h
    · next c =>
      obtain ⟨c1, c2, c3, c4⟩ := c
      have hd : Dp X.K H v (D.py (.tup ys)) := rv.dp (by rw [D.plain]; exact c1)
      cases rv with
      | tup s r => exact ⟨_, _, rfl, hd, c2, nodict_py _, c3, c4, h.now (.str _)⟩
    · exact h.elim
  · exact h.elim
end
end Dt
namespace Dt
open L2 PySem PySem.Spec PyProof.Rows
/-! ### what is walked -/
structure ItOK (K : PySem.W.Frag) (cl : Cl) (O : List Addr) (H0 : Hp) (ds : List D) (J : It) : Prop where
  go : ∀ (i : Nat) (O' : List Addr) (H : Hp), Same (hide O H0) (hide O' H) → i < ds.length → J.go i H
  stop : ∀ (i : Nat) (O' : List Addr) (H : Hp), Same (hide O H0) (hide O' H) → ds.length ≤ i → J.stop i H
  yld : ∀ (i : Nat) (O' : List Addr) (H : Hp) (x : V) (H' : Hp), Same (hide O H0) (hide O' H) → (∀ a ∈ O', H a ≠ none) → J.yld i H x H' → Same H H' ∧ ∀ d, ds[i]? = some d → Rp K cl (hide O' H') x d
def PostI (K : PySem.W.Frag) (cl : Cl) (w : Wf) (L : List Addr) (σ : L2.St) (H : Hp) (R : It → Hp → Prop) : M (List D × S) → Prop
  | some (.ok (ds, s')) => ∀ J H', Step w L H L H' → Wl K cl w L s' σ H' → ItOK K cl (L ++ w.O0) H' ds J → R J H'
  | _ => False
def TIof (K : PySem.W.Frag) (cl : Cl) (f : S → M (List D × S)) : TI := fun σ H R => ∃ w L sd, Wl K cl w L sd σ H ∧ PostI K cl w L σ H R (f sd)
def iLst (fa : S → M (D × S)) : S → M (List D × S) := fun s => bd (fa s) fun p => match p.1 with
  | .lst ds => ok (ds, p.2)
  | _ => none
def iTp (fa : S → M (D × S)) : S → M (List D × S) := fun s => bd (fa s) fun p => match p.1 with
  | .tup ds => ok (ds, p.2)
  | _ => none
def rangeD (i : Int) (n : Nat) : List D := (List.range n).map fun (k : Nat) => D.int (i + (k : Int))
def rngOk (i : Int) : Prop := -(2 ^ 62) ≤ i ∧ i < 2 ^ 62
instance (i : Int) : Decidable (rngOk i) := by unfold rngOk; infer_instance
def iR1 (fr : S → M (List D × S)) : S → M (List D × S) := fun s => bd (fr s) fun p => match p.1 with
  | [.int j] => if rngOk j then ok (rangeD 0 j.toNat, p.2) else none
  | _ => none
def iR2 (fr : S → M (List D × S)) : S → M (List D × S) := fun s => bd (fr s) fun p => match p.1 with
  | [.int i, .int j] => if rngOk i ∧ rngOk j then ok (rangeD i (j - i).toNat, p.2) else none
  | _ => none
def enumD : Nat → List D → List D
  | _, [] => []
  | i, d :: ds => .tup [.int i, d] :: enumD (i + 1) ds
def iEn (fr : S → M (List D × S)) : S → M (List D × S) := fun s => bd (fr s) fun p => match p.1 with
  | [.lst ds] => ok (enumD 0 ds, p.2)
  | _ => none
def zipD : List D → List D → List D
  | d :: ds, e :: es => .tup [d, e] :: zipD ds es
  | _, _ => []
def iZp (fr : S → M (List D × S)) : S → M (List D × S) := fun s => bd (fr s) fun p => match p.1 with
  | [.lst ds, .lst es] => ok (zipD ds es, p.2)
  | _ => none
theorem rangeD_len (i : Int) (n : Nat) : (rangeD i n).length = n := by simp [rangeD]
theorem rangeD_get (i : Int) (n k : Nat) (h : k < n) : (rangeD i n)[k]? = some (.int (i + (k : Int))) := by
  unfold rangeD
  rw [List.getElem?_map, List.getElem?_range h]
  rfl
theorem enumD_len : ∀ (i : Nat) (ds : List D), (enumD i ds).length = ds.length
  | _, [] => rfl
  | i, d :: ds => by rw [enumD, List.length_cons, List.length_cons, enumD_len]
theorem enumD_get : ∀ (i : Nat) (ds : List D) (k : Nat), (enumD i ds)[k]? = (ds[k]?).map fun d => .tup [.int ((i + k : Nat) : Int), d]
  | _, [], k => by simp [enumD]
  | i, d :: ds, 0 => by simp [enumD]
  | i, d :: ds, k + 1 => by
    rw [enumD, List.getElem?_cons_succ, enumD_get (i + 1) ds k, List.getElem?_cons_succ]
    have e : i + 1 + k = i + (k + 1) := by omega
    rw [e]
theorem zipD_get : ∀ (ds es : List D) (k : Nat) (d e : D), ds[k]? = some d → es[k]? = some e → (zipD ds es)[k]? = some (.tup [d, e])
  | [], _, k, _, _, h, _ => by simp at h
  | _ :: _, [], k, _, _, _, h => by simp at h
  | d :: ds, e :: es, 0, _, _, h, h' => by simp at h h'; subst h; subst h'; rfl
  | d :: ds, e :: es, k + 1, x, y, h, h' => by
    rw [zipD, List.getElem?_cons_succ]
    exact zipD_get ds es k x y (by simpa using h) (by simpa using h')
theorem zipD_len : ∀ (ds es : List D), (zipD ds es).length = min ds.length es.length
  | [], _ => by simp [zipD]
  | _ :: _, [] => by simp [zipD]
  | d :: ds, e :: es => by rw [zipD, List.length_cons, zipD_len, List.length_cons, List.length_cons]; omega
section
variable {X : Cx} {K : PySem.W.Frag} {cl : Cl} {pos p : Pos} {tg l a b e : Expr} {fa : S → M (D × S)} {fr : S → M (List D × S)}
theorem iP {X : Cx} {tg e : Expr} {t t' : TI} (h : PI X tg e t) (k : ∀ σ H Q, t' σ H Q → t σ H Q) : PI X tg e t' := ⟨fun pins s σ H Q I q => h.run pins s σ H Q I (k σ H Q q)⟩
theorem botI {w : Wf} {L : List Addr} {σ : L2.St} {H : Hp} {R : It → Hp → Prop} : Bot (PostI K cl w L σ H R) := ⟨fun h => h, fun _ h => h⟩
theorem itok_list {O : List Addr} {H0 : Hp} {a : Addr} {xs : List V} {ds : List D} (s : SqL K (hide O H0) a xs) (r : RpA K cl (hide O H0) xs ds) : ItOK K cl O H0 ds (Itl K a) where
  go := fun i O' H sm hi => by
    have e := r.len
    exact ⟨xs, xs[i], hide_le.seq (sm.seq s), List.getElem?_eq_getElem (by omega)⟩
  stop := fun i O' H sm hi => ⟨xs, hide_le.seq (sm.seq s), by rw [r.len]; exact hi⟩
  yld := fun i O' H x H' sm al y => by
    obtain ⟨rfl, y⟩ := y
    refine ⟨Same.refl _, fun d hd => ?_⟩
    obtain ⟨v, h1, h2⟩ := r.get i hd
    have h3 := y xs (hide_le.seq (sm.seq s))
    rw [h1] at h3
    cases h3
    exact h2.mono sm
theorem itok_tup {O : List Addr} {H0 : Hp} {a : Addr} {xs : List V} {ds : List D} (s : SqT K (hide O H0) a xs) (r : RpA K cl (hide O H0) xs ds) : ItOK K cl O H0 ds (Itt K a) where
  go := fun i O' H sm hi => by
    have e := r.len
    exact ⟨xs, xs[i], same_sqT hide_le (same_sqT sm s), List.getElem?_eq_getElem (by omega)⟩
  stop := fun i O' H sm hi => ⟨xs, same_sqT hide_le (same_sqT sm s), by rw [r.len]; exact hi⟩
  yld := fun i O' H x H' sm al y => by
    obtain ⟨rfl, y⟩ := y
    refine ⟨Same.refl _, fun d hd => ?_⟩
    obtain ⟨v, h1, h2⟩ := r.get i hd
    have h3 := y xs (same_sqT hide_le (same_sqT sm s))
    rw [h1] at h3
    cases h3
    exact h2.mono sm
theorem itok_rng {O : List Addr} {H0 : Hp} {i : Int} {n : Nat} : ItOK K cl O H0 (rangeD i n) (Itr i n) where
  go := fun k O' H sm hk => by rw [rangeD_len] at hk; exact hk
  stop := fun k O' H sm hk => by rw [rangeD_len] at hk; exact hk
  yld := fun k O' H x H' sm al y => by
    obtain ⟨rfl, rfl⟩ := y
    refine ⟨Same.refl _, fun d hd => ?_⟩
    have hk : k < n := by
      have := (List.getElem?_eq_some_iff.mp hd).1
      rwa [rangeD_len] at this
    rw [rangeD_get i n k hk] at hd
    cases hd
    exact .int _
theorem itok_en {O : List Addr} {H0 : Hp} {a : Addr} {xs : List V} {ds : List D} (s : SqL K (hide O H0) a xs) (r : RpA K cl (hide O H0) xs ds) : ItOK K cl O H0 (enumD 0 ds) (Ite K a) where
  go := fun i O' H sm hi => by
    have e := r.len
    rw [enumD_len] at hi
    exact ⟨xs, xs[i], hide_le.seq (sm.seq s), List.getElem?_eq_getElem (by omega)⟩
  stop := fun i O' H sm hi => ⟨xs, hide_le.seq (sm.seq s), by rw [r.len]; rw [enumD_len] at hi; exact hi⟩
  yld := fun i O' H x H' sm al y => by
    obtain ⟨T, x1, rfl, nT, rfl, y⟩ := y
    refine ⟨same_upd nT, fun d hd => ?_⟩
    rw [enumD_get] at hd
    cases q : ds[i]? with
    | none => rw [q] at hd; cases hd
    | some d1 =>
      rw [q] at hd
      cases hd
      obtain ⟨v, h1, h2⟩ := r.get i q
      have h3 := y xs (hide_le.seq (sm.seq s))
      rw [h1] at h3
      cases h3
      refine .tup (.inl (.inl (hide_new al nT))) (.cons ?_ (.cons ((h2.mono sm).mono (hide_upd nT)) .nil))
      have e : (0 + i : Nat) = i := by omega
      rw [e]
      exact .int _
theorem itok_zp {O : List Addr} {H0 : Hp} {a b : Addr} {xs ys : List V} {ds es : List D} (s : SqL K (hide O H0) a xs) (r : RpA K cl (hide O H0) xs ds) (s2 : SqL K (hide O H0) b ys) (r2 : RpA K cl (hide O H0) ys es) : ItOK K cl O H0 (zipD ds es) (Itz K a b) where
  go := fun i O' H sm hi => by
    have e := r.len
    have e2 := r2.len
    rw [zipD_len] at hi
    exact ⟨xs, ys, xs[i], ys[i], hide_le.seq (sm.seq s), hide_le.seq (sm.seq s2), List.getElem?_eq_getElem (by omega), List.getElem?_eq_getElem (by omega)⟩
  stop := fun i O' H sm hi => by
    have e := r.len
    have e2 := r2.len
    rw [zipD_len] at hi
    exact ⟨xs, ys, hide_le.seq (sm.seq s), hide_le.seq (sm.seq s2), by omega⟩
  yld := fun i O' H x H' sm al y => by
    obtain ⟨T, x1, x2, rfl, nT, rfl, y1, y2⟩ := y
    refine ⟨same_upd nT, fun d hd => ?_⟩
    have hi := (List.getElem?_eq_some_iff.mp hd).1
    rw [zipD_len] at hi
    have q1 : ds[i]? = some ds[i] := List.getElem?_eq_getElem (by omega)
    have q2 : es[i]? = some es[i] := List.getElem?_eq_getElem (by omega)
    rw [zipD_get ds es i _ _ q1 q2] at hd
    cases hd
    obtain ⟨v, h1, h2⟩ := r.get i q1
    obtain ⟨v', h1', h2'⟩ := r2.get i q2
    have h3 := y1 xs (hide_le.seq (sm.seq s))
    have h3' := y2 ys (hide_le.seq (sm.seq s2))
    rw [h1] at h3
    rw [h1'] at h3'
    cases h3
    cases h3'
    exact .tup (.inl (.inl (hide_new al nT))) (.cons ((h2.mono sm).mono (hide_upd nT)) (.cons ((h2'.mono sm).mono (hide_upd nT)) .nil))
theorem w_list (hl : PE X l (TEof X.K cl fa)) : PI X tg l (TIof X.K cl (iLst fa)) := by
  refine iP (pi_list hl) ?_
  rintro σ H Q ⟨w, L, sd, W, h⟩
  refine ⟨w, L, sd, W, PostE.bd botI h fun r s1 h v H1 st1 W1 rr => ?_⟩
  cases rr with
  | lst s r => exact ⟨_, rfl, ⟨_, hide_le.seq s⟩, h _ H1 st1 W1 (itok_list s r)⟩
  | _ => exact h.elim
theorem w_tup (hl : PE X l (TEof X.K cl fa)) : PI X tg l (TIof X.K cl (iTp fa)) := by
  refine iP (pi_tup hl) ?_
  rintro σ H Q ⟨w, L, sd, W, h⟩
  refine ⟨w, L, sd, W, PostE.bd botI h fun r s1 h v H1 st1 W1 rr => ?_⟩
  cases rr with
  | tup s r => exact ⟨_, rfl, ⟨_, same_sqT hide_le s⟩, h _ H1 st1 W1 (itok_tup s r)⟩
  | _ => exact h.elim
theorem w_range1 (hm : X.mg "range" = none) (ha : PA X [a] (TAof K cl fr)) (hg : Gl X "range" := by rfl) (hs : starEach [a] X.env = [(false, eval a X.env)] := by rfl) : PI X tg (.Call (.Name "range" p) [a] [] pos) (TIof K cl (iR1 fr)) := by
  refine iP (pi_range1 hg hm ha hs) ?_
  rintro σ H Q ⟨w, L, sd, W, h⟩
  refine ⟨w, L, sd, W, PostA.bd botI h fun rs s1 h vs H1 st1 W1 rr => ?_⟩
  dsimp only at h
  split at h
  · obtain ⟨v, rfl, rv⟩ := rr.one
    cases rv
    split at h
    · next c => exact ⟨_, rfl, c.1, c.2, h _ H1 st1 W1 itok_rng⟩
    · exact h.elim
  · exact h.elim
theorem w_range2 (hm : X.mg "range" = none) (ha : PA X [a, b] (TAof K cl fr)) (hg : Gl X "range" := by rfl) (hs : starEach [a, b] X.env = [(false, eval a X.env), (false, eval b X.env)] := by rfl) (hs2 : starEach [b] X.env = [(false, eval b X.env)] := by rfl) : PI X tg (.Call (.Name "range" p) [a, b] [] pos) (TIof K cl (iR2 fr)) := by
  refine iP (pi_range2 hg hm ha hs hs2) ?_
  rintro σ H Q ⟨w, L, sd, W, h⟩
  refine ⟨w, L, sd, W, PostA.bd botI h fun rs s1 h vs H1 st1 W1 rr => ?_⟩
  dsimp only at h
  split at h
  · obtain ⟨v, u, rfl, rv, ru⟩ := rr.two
    cases rv
    cases ru
    split at h
    · next c => exact ⟨_, _, rfl, ⟨c.1.1, c.1.2, c.2.1, c.2.2⟩, h _ H1 st1 W1 itok_rng⟩
    · exact h.elim
  · exact h.elim
theorem w_enum {elts : List Expr} {kk : Nat} {tpos : Pos} (hm : X.mg "enumerate" = none) (ha : PA X [e] (TAof X.K cl fr)) (hg : Gl X "enumerate" := by rfl) (hs : starEach [e] X.env = [(false, eval e X.env)] := by rfl) : PI X (.Tuple elts kk tpos) (.Call (.Name "enumerate" p) [e] [] pos) (TIof X.K cl (iEn fr)) := by
  refine iP (pi_enum hg hm ha hs) ?_
  rintro σ H Q ⟨w, L, sd, W, h⟩
  refine ⟨w, L, sd, W, PostA.bd botI h fun rs s1 h vs H1 st1 W1 rr => ?_⟩
  dsimp only at h
  split at h
  · obtain ⟨v, rfl, rv⟩ := rr.one
    cases rv with
    | lst s r => exact ⟨_, _, rfl, hide_le.seq s, h _ H1 st1 W1 (itok_en s r)⟩
  · exact h.elim
theorem w_zip {e2 : Expr} {elts : List Expr} {kk : Nat} {tpos : Pos} (hm : X.mg "zip" = none) (ha : PA X [e, e2] (TAof X.K cl fr)) (hg : Gl X "zip" := by rfl) (hs : starEach [e, e2] X.env = (false, eval e X.env) :: starEach [e2] X.env := by rfl) (hpl : (backTo pos (starEach [e2] X.env)).any (·.1) = false := by rfl) :
    PI X (.Tuple elts kk tpos) (.Call (.Name "zip" p) [e, e2] [] pos) (TIof X.K cl (iZp fr)) := by
  refine iP (pi_zip hg hm ha hs hpl) ?_
  rintro σ H Q ⟨w, L, sd, W, h⟩
  refine ⟨w, L, sd, W, PostA.bd botI h fun rs s1 h vs H1 st1 W1 rr => ?_⟩
  dsimp only at h
  split at h
  · obtain ⟨v, u, rfl, rv, ru⟩ := rr.two
    cases rv with
    | lst s r =>
      cases ru with
      | lst s2 r2 => exact ⟨_, _, _, _, rfl, hide_le.seq s, hide_le.seq s2, h _ H1 st1 W1 (itok_zp s r s2 r2)⟩
  · exact h.elim
end
/-! ### targets -/
/-- the slots other than ts are as they were -/
structure Agree (ts : List Nat) (σ σ' : L2.St) : Prop where
  len : σ'.length = σ.length
  out : ∀ i, i ∉ ts → σ'[i]? = σ[i]?
def PostG (K : PySem.W.Frag) (cl : Cl) (ts : List Nat) (w : Wf) (L : List Addr) (σ : L2.St) (H : Hp) (Q : L2.St → Hp → Prop) : M S → Prop
  | some (.ok s') => ∀ σ' H', Step w L H L H' → Wl K cl w L s' σ' H' → Agree ts σ σ' → Q σ' H'
  | _ => False
def TGof (K : PySem.W.Frag) (cl : Cl) (ts : List Nat) (f : D → S → M S) : TG := fun v σ H Q => ∃ w L sd d, Wl K cl w L sd σ H ∧ Rp K cl (hide (L ++ w.O0) H) v d ∧ PostG K cl ts w L σ H Q (f d sd)
def TGsof (K : PySem.W.Frag) (cl : Cl) (ts : List Nat) (f : List D → S → M S) : TGs := fun vs σ H Q => ∃ w L sd ds, Wl K cl w L sd σ H ∧ RpA K cl (hide (L ++ w.O0) H) vs ds ∧ PostG K cl ts w L σ H Q (f ds sd)
def gNm (i : Nat) : D → S → M S := fun d s => ok (s.set i (.val d))
def gTp (f : List D → S → M S) : D → S → M S := fun d s => match d with
  | .tup ds => f ds s
  | _ => none
def gsNil : List D → S → M S := fun ds s => match ds with
  | [] => ok s
  | _ => none
def gsCons (f : D → S → M S) (g : List D → S → M S) : List D → S → M S := fun ds s => match ds with
  | d :: ds => bd (f d s) fun s1 => g ds s1
  | _ => none
section
variable {X : Cx} {K : PySem.W.Frag} {cl : Cl} {pos : Pos} {w : Wf} {L : List Addr} {sd : S} {σ : L2.St} {H : Hp}
/-- a slot takes a value -/
theorem Wl.set (W : Wl K cl w L sd σ H) {i : Nat} {v : V} {d : D} (r : Rp K cl (hide (L ++ w.O0) H) v d) : Wl K cl w L (sd.set i (.val d)) (σ.set i (some v)) H := by
  have get : ∀ {j : Nat} {x : Sl}, j ≠ i → (sd.set i (.val d))[j]? = some x → sd[j]? = some x := fun h e => by rwa [List.getElem?_set_ne (Ne.symm h)] at e
  have getv : ∀ {j : Nat} {x : Option V}, j ≠ i → σ[j]? = some x → (σ.set i (some v))[j]? = some x := fun h e => by rwa [List.getElem?_set_ne (Ne.symm h)]
  have nown : ∀ {x : Sl}, (sd.set i (.val d))[i]? = some x → x = .val d ∧ i < sd.length := fun {x} e => by
    by_cases h : i < sd.length
    · rw [List.getElem?_set_self h] at e; cases e; exact ⟨rfl, h⟩
    · rw [List.getElem?_eq_none (by simpa using h)] at e; cases e
  refine ⟨W.keep, W.fresh, W.alive, W.disj, W.sub, ⟨fun j e he => ?_, fun j e he => ?_, fun j e he => ?_, fun j k e f a he hf h1 h2 => ?_, fun j k e f he hf => ?_, by simpa using W.st.len⟩⟩
  · by_cases h : j = i
    · subst h
      obtain ⟨q, hl⟩ := nown he
      cases q
      exact ⟨v, List.getElem?_set_self (by rw [W.st.len]; exact hl), r⟩
    · obtain ⟨u, h1, h2⟩ := W.st.val j e (get h he)
      exact ⟨u, getv h h1, h2⟩
  · by_cases h : j = i
    · subst h; cases (nown he).1
    · obtain ⟨a, h1, h2, h3⟩ := W.st.own j e (get h he)
      exact ⟨a, getv h h1, h2, h3⟩
  · by_cases h : j = i
    · subst h; cases (nown he).1
    · obtain ⟨h1, h2, h3⟩ := W.st.io j e (get h he)
      exact ⟨getv h h1, h2, h3⟩
  · by_cases hj : j = i
    · subst hj; cases (nown he).1
    · by_cases hk : k = i
      · subst hk; cases (nown hf).1
      · rw [List.getElem?_set_ne (Ne.symm hj)] at h1
        rw [List.getElem?_set_ne (Ne.symm hk)] at h2
        exact W.st.inj j k e f a (get hj he) (get hk hf) h1 h2
  · by_cases hj : j = i
    · subst hj; cases (nown he).1
    · by_cases hk : k = i
      · subst hk; cases (nown hf).1
      · exact W.st.ioj j k e f (get hj he) (get hk hf)
theorem iG {X : Cx} {e : Expr} {t t' : TG} (h : PG X e t) (k : ∀ v σ H Q, t' v σ H Q → t v σ H Q) : PG X e t' := ⟨fun pins s σ H v u Q I r q => h.run pins s σ H v u Q I r (k v σ H Q q)⟩
theorem iGs {X : Cx} {e : List Expr} {t t' : TGs} (h : PGs X e t) (k : ∀ v σ H Q, t' v σ H Q → t v σ H Q) : PGs X e t' := ⟨fun pins s σ H v u Q I r q => h.run pins s σ H v u Q I r (k v σ H Q q)⟩
theorem g_name (i : Nat) {x : Str} (hN : X.N.Nodup) (hi : X.N[i]? = some x := by rfl) (hx : Loc X.env.scope x := by first | exact Or.inl rfl | exact Or.inr rfl) (hf : X.fn x = true ∨ X.env.scope.names.lookup x = some .local := by first | exact .inl rfl | exact .inr rfl) : PG X (.Name x pos) (TGof K cl [i] (gNm i)) := by
  refine iG (pg_name hN hi hx hf) ?_
  rintro v σ H Q ⟨w, L, sd, d, W, r, h⟩
  exact h _ H .refl (W.set r) ⟨by rw [List.length_set], fun j hj => by
    rw [List.getElem?_set_ne]
    intro e
    exact hj (by simp [e])⟩
theorem gs_nil : PGs X [] (TGsof K cl [] gsNil) := by
  refine iGs pgs_nil ?_
  rintro v σ H Q ⟨w, L, sd, d, W, r, h⟩
  cases r with
  | nil => exact ⟨rfl, h σ H .refl W ⟨rfl, fun _ _ => rfl⟩⟩
  | cons a b => exact h.elim
theorem gs_cons {e : Expr} {es : List Expr} {ts us : List Nat} {f : D → S → M S} {g : List D → S → M S} (h1 : PG X e (TGof K cl ts f)) (h2 : PGs X es (TGsof K cl us g))
    (hs : (assignEach (e :: es) X.env).map (·.2) = assign e X.env :: (assignEach es X.env).map (·.2) := by rfl) : PGs X (e :: es) (TGsof K cl (ts ++ us) (gsCons f g)) := by
  refine iGs (pgs_cons h1 h2 hs) ?_
  rintro vs σ H Q ⟨w, L, sd, ds, W, r, h⟩
  cases r with
  | nil => exact h.elim
  | @cons v vs d ds a b =>
    refine ⟨v, vs, rfl, w, L, sd, d, W, a, ?_⟩
    have h : PostG K cl (ts ++ us) w L σ H Q (bd (f d sd) fun s1 => g ds s1) := h
    match (f d sd : M S), h with
    | none, h => exact h.elim
    | some (.ex _), h => exact h.elim
    | some (.ok s1), h =>
      intro σ1 H1 st1 W1 k1
      refine ⟨w, L, s1, ds, W1, b.mono (st1.sn W1), ?_⟩
      have h : PostG K cl (ts ++ us) w L σ H Q (g ds s1) := h
      match (g ds s1 : M S), h with
      | none, h => exact h.elim
      | some (.ex _), h => exact h.elim
      | some (.ok s2), h =>
        intro σ2 H2 st2 W2 k2
        refine h σ2 H2 (st1.trans st2) W2 ⟨k2.len.trans k1.len, fun i hi => ?_⟩
        rw [k2.out i fun z => hi (List.mem_append_right _ z), k1.out i fun z => hi (List.mem_append_left _ z)]
theorem gsl_nil : ∀ ds s s', gsNil ds s = some (.ok s') → ds.length = 0 := fun ds s s' h => by
  cases ds with
  | nil => rfl
  | cons d ds => cases h
theorem gsl_cons {f : D → S → M S} {g : List D → S → M S} {n : Nat} (hg : ∀ ds s s', g ds s = some (.ok s') → ds.length = n) : ∀ ds s s', gsCons f g ds s = some (.ok s') → ds.length = n + 1 := fun ds s s' h => by
  cases ds with
  | nil => cases h
  | cons d ds =>
    have h : bd (f d s) (fun s1 => g ds s1) = some (.ok s') := h
    generalize f d s = m at h
    match m, h with
    | none, h => cases h
    | some (.ex _), h => cases h
    | some (.ok s1), h =>
      have h : g ds s1 = some (.ok s') := h
      rw [List.length_cons, hg ds s1 s' h]
theorem g_tup {es : List Expr} {k : Nat} {ts : List Nat} {f : List D → S → M S} (hc : X.calm = true) (h : PGs X es (TGsof X.K cl ts f)) (n : Nat) (hf : ∀ ds s s', f ds s = some (.ok s') → ds.length = n)
    (hn : (assignEach es X.env).length = n := by rfl) (hst : (assignEach es X.env).findIdx? (·.1) = none := by rfl) : PG X (.Tuple es k pos) (TGof X.K cl ts (gTp f)) := by
  refine iG (pg_tup hc h hn hst) ?_
  rintro v σ H Q ⟨w, L, sd, d, W, r, h⟩
  cases r with
  | @tup a xs ds s r =>
    have h : PostG X.K cl ts w L σ H Q (f ds sd) := h
    refine ⟨a, xs, rfl, same_sqT hide_le s, ?_, w, L, sd, ds, W, r, h⟩
    rw [r.len]
    generalize e : f ds sd = m at h
    match m, h with
    | none, h => exact h.elim
    | some (.ex _), h => exact h.elim
    | some (.ok s1), _ => exact hf ds sd s1 e
  | _ => exact h.elim
end
end Dt
namespace Dt
open L2 PySem PySem.Spec PyProof.Rows
/-! ### comprehensions -/
def wipeS (s : S) : List Nat → S
  | [] => s
  | v :: vs => (wipeS s vs).set v .un
/-- what a value slot held -/
def keepV : Option Sl → Sl
  | some (.val d) => .val d
  | _ => .un
def restS (s0 s : S) : List Nat → S
  | [] => s
  | v :: vs => (restS s0 s vs).set v (keepV s0[v]?)
theorem wipeS_len (s : S) : ∀ vs : List Nat, (wipeS s vs).length = s.length
  | [] => rfl
  | v :: vs => by rw [wipeS, List.length_set, wipeS_len s vs]
theorem restS_len (s0 s : S) : ∀ vs : List Nat, (restS s0 s vs).length = s.length
  | [] => rfl
  | v :: vs => by rw [restS, List.length_set, restS_len s0 s vs]
theorem wipeS_out (s : S) (i : Nat) : ∀ vs : List Nat, i ∉ vs → (wipeS s vs)[i]? = s[i]?
  | [], _ => rfl
  | v :: vs, h => by
    rw [wipeS, List.getElem?_set_ne (fun e => h (by simp [e]))]
    exact wipeS_out s i vs fun z => h (List.mem_cons_of_mem _ z)
theorem wipeS_in (s : S) (i : Nat) (x : Sl) : ∀ vs : List Nat, i ∈ vs → (wipeS s vs)[i]? = some x → x = .un
  | [], h, _ => by simp at h
  | v :: vs, h, e => by
    rw [wipeS] at e
    by_cases q : v = i
    · subst q
      by_cases hl : v < (wipeS s vs).length
      · rw [List.getElem?_set_self hl] at e; cases e; rfl
      · rw [List.getElem?_eq_none (by simpa using hl)] at e; cases e
    · rw [List.getElem?_set_ne q] at e
      (rcases List.mem_cons.mp h with z | z)
      · exact absurd z.symm q
      · exact wipeS_in s i x vs z e
theorem wipe_out (σ : L2.St) (i : Nat) : ∀ vs : List Nat, i ∉ vs → (wipe σ vs)[i]? = σ[i]?
  | [], _ => rfl
  | v :: vs, h => by
    rw [wipe, List.getElem?_set_ne (fun e => h (by simp [e]))]
    exact wipe_out σ i vs fun z => h (List.mem_cons_of_mem _ z)
theorem wipe_in (σ : L2.St) (i : Nat) : ∀ vs : List Nat, i ∈ vs → (wipe σ vs)[i]? = if i < σ.length then some none else none
  | [], h => by simp at h
  | v :: vs, h => by
    rw [wipe]
    by_cases q : v = i
    · subst q
      rw [List.getElem?_set, if_pos rfl, wipe_length]
    · rw [List.getElem?_set_ne q]
      (rcases List.mem_cons.mp h with z | z)
      · exact absurd z.symm q
      · exact wipe_in σ i vs z
theorem wipe_eq {σ σ' : L2.St} {vs ts : List Nat} (h : Agree ts σ σ') (hs : ∀ i ∈ ts, i ∈ vs) : wipe σ' vs = wipe σ vs := by
  apply List.ext_getElem?
  intro i
  by_cases z : i ∈ vs
  · rw [wipe_in σ' i vs z, wipe_in σ i vs z, h.len]
  · rw [wipe_out σ' i vs z, wipe_out σ i vs z]
    exact h.out i fun y => z (hs i y)
theorem wipe_wipe (σ : L2.St) (vs : List Nat) : wipe (wipe σ vs) vs = wipe σ vs := by
  apply List.ext_getElem?
  intro i
  by_cases z : i ∈ vs
  · rw [wipe_in _ i vs z, wipe_in σ i vs z, wipe_length]
  · rw [wipe_out _ i vs z]
theorem restS_out (s0 s : S) (i : Nat) : ∀ vs : List Nat, i ∉ vs → (restS s0 s vs)[i]? = s[i]?
  | [], _ => rfl
  | v :: vs, h => by
    rw [restS, List.getElem?_set_ne (fun e => h (by simp [e]))]
    exact restS_out s0 s i vs fun z => h (List.mem_cons_of_mem _ z)
theorem restS_in (s0 s : S) (i : Nat) (x : Sl) : ∀ vs : List Nat, i ∈ vs → (restS s0 s vs)[i]? = some x → x = keepV s0[i]?
  | [], h, _ => by simp at h
  | v :: vs, h, e => by
    rw [restS] at e
    by_cases q : v = i
    · subst q
      by_cases hl : v < (restS s0 s vs).length
      · rw [List.getElem?_set_self hl] at e; cases e; rfl
      · rw [List.getElem?_eq_none (by simpa using hl)] at e; cases e
    · rw [List.getElem?_set_ne q] at e
      (rcases List.mem_cons.mp h with z | z)
      · exact absurd z.symm q
      · exact restS_in s0 s i x vs z e
theorem keepV_val {o : Option Sl} {d : D} (h : Sl.val d = keepV o) : o = some (.val d) := by
  match o, h with
  | none, h => cases h
  | some .un, h => cases h
  | some (.val e), h => cases h; rfl
  | some (.own e), h => cases h
  | some (.io e), h => cases h
theorem keepV_own {o : Option Sl} {d : D} (h : Sl.own d = keepV o) : False := by
  match o, h with
  | none, h => cases h
  | some .un, h => cases h
  | some (.val e), h => cases h
  | some (.own e), h => cases h
  | some (.io e), h => cases h
theorem keepV_io {o : Option Sl} {d : D} (h : Sl.io d = keepV o) : False := by
  match o, h with
  | none, h => cases h
  | some .un, h => cases h
  | some (.val e), h => cases h
  | some (.own e), h => cases h
  | some (.io e), h => cases h
def compL (vs : List Nat) (T : D → S → M S) (ft : S → M (Bool × S)) (fe : S → M (D × S)) : List D → S → M (List D × S)
  | [], s => ok ([], s)
  | d :: ds, s => bd (T d s) fun s1 => bd (ft s1) fun p => if p.1 = true then bd (fe p.2) fun q => bd (compL vs T ft fe ds (wipeS q.2 vs)) fun r => ok (q.1 :: r.1, r.2) else compL vs T ft fe ds (wipeS p.2 vs)
def dComp (fi : S → M (List D × S)) (vs : List Nat) (T : D → S → M S) (ft : S → M (Bool × S)) (fe : S → M (D × S)) : S → M (D × S) := fun s =>
  bd (fi s) fun p => if p.1.length ≤ sizeLine then bd (compL vs T ft fe p.1 (wipeS p.2 vs)) fun q => ok (.lst q.1, restS p.2 q.2 vs) else none
def tTrue : S → M (Bool × S) := fun s => ok (true, s)
section
variable {X : Cx} {K : PySem.W.Frag} {cl : Cl} {pos : Pos} {w : Wf} {L : List Addr} {sd : S} {σ : L2.St} {H : Hp}
theorem Wl.wiped (W : Wl K cl w L sd σ H) (vs : List Nat) : Wl K cl w L (wipeS sd vs) (wipe σ vs) H := by
  have back : ∀ {i : Nat} {x : Sl}, x ≠ .un → (wipeS sd vs)[i]? = some x → i ∉ vs ∧ sd[i]? = some x := fun {i x} hx e => by
    by_cases z : i ∈ vs
    · exact absurd (wipeS_in sd i x vs z e) hx
    · rw [wipeS_out sd i vs z] at e; exact ⟨z, e⟩
  refine ⟨W.keep, W.fresh, W.alive, W.disj, W.sub, ⟨fun i d e => ?_, fun i d e => ?_, fun i d e => ?_, fun i j d e a h1 h2 h3 h4 => ?_, fun i j d e h1 h2 => ?_, by rw [wipe_length, wipeS_len]; exact W.st.len⟩⟩
  · obtain ⟨n, e⟩ := back (by simp) e
    rw [wipe_out σ i vs n]
    exact W.st.val i d e
  · obtain ⟨n, e⟩ := back (by simp) e
    rw [wipe_out σ i vs n]
    exact W.st.own i d e
  · obtain ⟨n, e⟩ := back (by simp) e
    rw [wipe_out σ i vs n]
    exact W.st.io i d e
  · obtain ⟨n1, h1⟩ := back (by simp) h1
    obtain ⟨n2, h2⟩ := back (by simp) h2
    rw [wipe_out σ i vs n1] at h3
    rw [wipe_out σ j vs n2] at h4
    exact W.st.inj i j d e a h1 h2 h3 h4
  · exact W.st.ioj i j d e (back (by simp) h1).2 (back (by simp) h2).2
/-- the same with one more address that is hidden from outside -/
abbrev Wf.more (w : Wf) (p : Addr) : Wf := { w with O0 := p :: w.O0 }
theorem mem_more {p a : Addr} {L O : List Addr} : a ∈ L ++ p :: O ↔ a = p ∨ a ∈ L ++ O := by
  simp only [List.mem_append, List.mem_cons]
  constructor
  · rintro (h | h | h)
    · exact .inr (.inl h)
    · exact .inl h
    · exact .inr (.inr h)
  · rintro (h | h | h)
    · exact .inr (.inl h)
    · exact .inl h
    · exact .inr (.inr h)
theorem Wl.more (W : Wl K cl w L sd σ H) {p : Addr} {o : HO} (np : H p = none) : Same (hide (L ++ w.O0) H) (hide (L ++ (w.more p).O0) (upd H p o)) ∧ Wl K cl (w.more p) L sd σ (upd H p o) := by
  have hp := W.new_ne np
  have s := same_upd (o := o) np
  have sh : Same (hide (L ++ w.O0) H) (hide (L ++ (w.more p).O0) (upd H p o)) := fun b u e => by
    obtain ⟨n, e⟩ := hide_some.mp e
    refine hide_some.mpr ⟨fun z => ?_, s b u e⟩
    rcases mem_more.mp z with z | z
    · rw [z, np] at e; cases e
    · exact n z
  have W' := W.ext s
  have own : ∀ {a d}, OwnAt K cl (L ++ w.O0) H a d → OwnAt K cl (L ++ (w.more p).O0) (upd H p o) a d := fun {a d} h => by
    refine h.move ?_ sh
    cases q : H a with
    | none => exact absurd q h.some
    | some o => exact s a o q
  refine ⟨sh, W'.keep, W.fresh, fun a ha => ?_, fun a ha z => ?_, fun a ha => List.mem_cons_of_mem _ (W.sub a ha), ⟨fun i d e => ?_, fun i d e => ?_, fun i d e => ?_, W.st.inj, W.st.ioj, W.st.len⟩⟩
  · rcases mem_more.mp ha with z | z
    · rw [z, upd_same]; simp
    · exact W'.alive a z
  · (rcases List.mem_cons.mp z with z | z)
    · exact hp (List.mem_append_left _ (z ▸ ha))
    · exact W.disj a ha z
  · obtain ⟨v, h1, h2⟩ := W.st.val i d e
    exact ⟨v, h1, h2.mono sh⟩
  · obtain ⟨a, h1, h2, h3⟩ := W.st.own i d e
    exact ⟨a, h1, h2, own h3⟩
  · obtain ⟨h1, h2, h3⟩ := W.st.io i d e
    exact ⟨h1, h2, own h3⟩
theorem Wl.back {H1 : Hp} {s1 sE : S} {vs : List Nat} {p : Addr} (W' : Wl K cl (w.more p) L sE (wipe σ vs) H) (W1 : Wl K cl w L s1 σ H1) (np : H1 p = none) (sh : Same (hide (L ++ w.O0) H1) (hide (L ++ (w.more p).O0) H)) (ex : ∀ i ∈ vs, ∀ x, sE[i]? = some x → x = Sl.un)
    (L2 : List Addr) (h2 : ∀ a ∈ L2, a ∈ L ∨ a = p) (h3 : ∀ a ∈ L, a ∈ L2) : Wl K cl w L2 (restS s1 sE vs) σ H := by
  have sb : Same (hide (L ++ (w.more p).O0) H) (hide (L2 ++ w.O0) H) := hide_sub fun a ha => by
    rcases List.mem_append.mp ha with z | z
    · rcases h2 a z with z | z
      · exact mem_more.mpr (.inr (List.mem_append_left _ z))
      · exact mem_more.mpr (.inl z)
    · exact mem_more.mpr (.inr (List.mem_append_right _ z))
  have hp := W1.new_ne np
  have out : ∀ {i : Nat} {x : Sl}, i ∉ vs → (restS s1 sE vs)[i]? = some x → sE[i]? = some x := fun h e => by rwa [restS_out s1 sE _ vs h] at e
  refine ⟨W'.keep, fun a ha => ?_, fun a ha => ?_, fun a ha => ?_, W1.sub, ⟨fun i d e => ?_, fun i d e => ?_, fun i d e => ?_, fun i j d e a q1 q2 q3 q4 => ?_, fun i j d e q1 q2 => ?_, ?_⟩⟩
  · rcases h2 a ha with z | z
    · exact W1.fresh a z
    · subst z
      cases q : w.H0 a with
      | none => rfl
      | some o =>
        by_cases hI : a ∈ w.I
        · exact absurd (List.mem_append_right _ (W1.sub a hI)) hp
        · have := W1.keep a o hI q
          rw [np] at this; cases this
  · refine W'.alive a (mem_more.mpr ?_)
    rcases List.mem_append.mp ha with z | z
    · rcases h2 a z with z | z
      · exact .inr (List.mem_append_left _ z)
      · exact .inl z
    · exact .inr (List.mem_append_right _ z)
  · rcases h2 a ha with z | z
    · exact W1.disj a z
    · rw [z]; exact fun y => hp (List.mem_append_right _ y)
  · by_cases z : i ∈ vs
    · obtain ⟨v, q1, q2⟩ := W1.st.val i d (keepV_val (restS_in s1 sE i _ vs z e))
      exact ⟨v, q1, (q2.mono sh).mono sb⟩
    · obtain ⟨v, q1, q2⟩ := W'.st.val i d (out z e)
      rw [wipe_out σ i vs z] at q1
      exact ⟨v, q1, q2.mono sb⟩
  · by_cases z : i ∈ vs
    · exact (keepV_own (restS_in s1 sE i _ vs z e)).elim
    · obtain ⟨a, q1, q2, q3⟩ := W'.st.own i d (out z e)
      rw [wipe_out σ i vs z] at q1
      exact ⟨a, q1, h3 a q2, q3.move rfl sb⟩
  · by_cases z : i ∈ vs
    · exact (keepV_io (restS_in s1 sE i _ vs z e)).elim
    · obtain ⟨q1, q2, q3⟩ := W'.st.io i d (out z e)
      rw [wipe_out σ i vs z] at q1
      exact ⟨q1, q2, q3.move rfl sb⟩
  · have z1 : i ∉ vs := fun z => (keepV_own (restS_in s1 sE i _ vs z q1)).elim
    have z2 : j ∉ vs := fun z => (keepV_own (restS_in s1 sE j _ vs z q2)).elim
    refine W'.st.inj i j d e a (out z1 q1) (out z2 q2) ?_ ?_
    · rw [wipe_out σ i vs z1]; exact q3
    · rw [wipe_out σ j vs z2]; exact q4
  · have z1 : i ∉ vs := fun z => (keepV_io (restS_in s1 sE i _ vs z q1)).elim
    have z2 : j ∉ vs := fun z => (keepV_io (restS_in s1 sE j _ vs z q2)).elim
    exact W'.st.ioj i j d e (out z1 q1) (out z2 q2)
  · have := W'.st.len
    rw [wipe_length] at this
    rw [restS_len]; exact this
theorem t_nil : PTs X [] (TTof K cl tTrue) := ⟨fun pins s σ H Q I h => pts_nil.run pins s σ H Q I (by
  obtain ⟨w, L, sd, W, h⟩ := h
  exact h H .refl W)⟩
theorem t_one {c : Expr} {f : S → M (Bool × S)} (h : PT X c (TTof K cl f)) : PTs X [c] (TTof K cl f) := pts_one h
theorem Step.re {w' : Wf} {L' : List Addr} {H' : Hp} (s : Step w L H L' H') (e : w'.I = w.I) : Step w' L H L' H' := ⟨fun b o h1 h2 => s.keep b o h1 (by rw [← e]; exact h2), s.alv, s.new⟩
/-- the reading of a comprehension -/
theorem comp_read {fi : S → M (List D × S)} {vs ts : List Nat} {T : D → S → M S} {ft : S → M (Bool × S)} {fe : S → M (D × S)} (hts : ∀ i ∈ ts, i ∈ vs) :
    ∀ σ H Q, TFof K cl (dComp fi vs T ft fe) σ H Q → tLc (TIof K cl fi) (TGof K cl ts T) (TTof K cl ft) (TEof K cl fe) vs σ H Q := by
  rintro σ H Q ⟨w, L, sd, W, h⟩
  refine ⟨w, L, sd, W, ?_⟩
  unfold dComp at h
  match (fi sd : M (List D × S)), h with
  | none, h => exact h.elim
  | some (.ex _), h => exact h.elim
  | some (.ok (ds, s1)), h =>
    intro J H1 st1 W1 it p np
    have h : PostF K cl w L σ H Q (if ds.length ≤ sizeLine then bd (compL vs T ft fe ds (wipeS s1 vs)) fun q => ok (.lst q.1, restS s1 q.2 vs) else none) := h
    by_cases hz : ds.length ≤ sizeLine
    case neg => rw [if_neg hz] at h; exact h.elim
    rw [if_pos hz] at h
    generalize e0 : compL vs T ft fe ds (wipeS s1 vs) = m at h
    match m, h with
    | none, h => exact h.elim
    | some (.ex _), h => exact h.elim
    | some (.ok (ys, sE)), h =>
      obtain ⟨sh, Wm⟩ := W1.more (p := p) (o := .lst []) np
      have Wm0 := Wm.wiped vs
      have hpI : p ∉ w.I := fun z => W1.new_ne np (List.mem_append_right _ (W1.sub p z))
      have hpL : p ∉ L := fun z => W1.new_ne np (List.mem_append_left _ z)
      refine ⟨fun i m H => m = ds.length - i ∧ i ≤ ds.length ∧ ∃ acc accD s zs, Wl K cl (w.more p) L s (wipe σ vs) H ∧ Step w L H1 L H ∧ H p = some (.lst acc) ∧ RpA K cl (hide (L ++ (w.more p).O0) H) acc accD ∧ acc.length ≤ i ∧
        compL vs T ft fe (ds.drop i) s = ok (zs, sE) ∧ ys = accD ++ zs ∧ (∀ j ∈ vs, ∀ x, s[j]? = some x → x = Sl.un),
        ⟨ds.length, by omega, Nat.zero_le _, [], [], wipeS s1 vs, ys, Wm0, .of_same (same_upd np), upd_same, .nil, Nat.le_refl _, e0, rfl, fun j hj x e => wipeS_in s1 j x vs hj e⟩, ?_⟩
      rintro i m H2 ⟨rfl, hi, acc, accD, s, zs, Ws, stw, hp, ra, hl, ec, ey, hun⟩
      have shi : Same (hide (L ++ w.O0) H1) (hide (L ++ (w.more p).O0) H2) := fun b o z => by
        obtain ⟨n, z'⟩ := hide_some.mp (stw.seen W1.sub b o z)
        refine hide_some.mpr ⟨fun y => ?_, z'⟩
        rcases mem_more.mp y with y | y
        · rw [y] at z; have := hide_le _ _ z; rw [np] at this; cases this
        · exact n y
      by_cases hlt : i < ds.length
      · refine .inr ⟨it.go i _ H2 shi hlt, fun H' => ∃ acc accD s zs, Wl K cl (w.more p) L s (wipe σ vs) H' ∧ Step w L H1 L H' ∧ H' p = some (.lst acc) ∧ RpA K cl (hide (L ++ (w.more p).O0) H') acc accD ∧ acc.length ≤ i + 1 ∧
          compL vs T ft fe (ds.drop (i + 1)) s = ok (zs, sE) ∧ ys = accD ++ zs ∧ (∀ j ∈ vs, ∀ x, s[j]? = some x → x = Sl.un),
          fun H' q => ⟨ds.length - (i + 1), by omega, rfl, hlt, q⟩, fun x H3 hy => ?_⟩
        obtain ⟨sm, hx⟩ := it.yld i _ H2 x H3 shi Ws.alive hy
        have hx := hx ds[i] (List.getElem?_eq_getElem hlt)
        rw [List.drop_eq_getElem_cons hlt] at ec
        have W3 := Ws.ext sm
        have st3 : Step w L H1 L H3 := stw.trans (.of_same sm)
        have ra3 := ra.mono ((Step.of_same (w := w.more p) (L := L) sm).sn Ws)
        have hp3 := sm p _ hp
        refine ⟨w.more p, L, s, ds[i], W3, hx, ?_⟩
        have ec : bd (T ds[i] s) (fun s1 => bd (ft s1) fun p => if p.1 = true then bd (fe p.2) fun q => bd (compL vs T ft fe (ds.drop (i + 1)) (wipeS q.2 vs)) fun r => ok (q.1 :: r.1, r.2) else compL vs T ft fe (ds.drop (i + 1)) (wipeS p.2 vs)) = ok (zs, sE) := ec
        match (T ds[i] s : M S), ec with
        | none, ec => cases ec
        | some (.ex _), ec => cases ec
        | some (.ok s4), ec =>
          intro σ4 H4 st4 W4 k4
          have hw4 : wipe σ4 vs = wipe σ vs := by
            rw [wipe_eq k4 hts, wipe_wipe]
          refine ⟨by rw [hw4], w.more p, L, s4, W4, ?_⟩
          have st4' : Step w L H1 L H4 := st3.trans (st4.re rfl)
          have ec : bd (ft s4) (fun p => if p.1 = true then bd (fe p.2) fun q => bd (compL vs T ft fe (ds.drop (i + 1)) (wipeS q.2 vs)) fun r => ok (q.1 :: r.1, r.2) else compL vs T ft fe (ds.drop (i + 1)) (wipeS p.2 vs)) = ok (zs, sE) := ec
          have keepP : ∀ {Ha Hb : Hp}, Step (w.more p) L Ha L Hb → Ha p = some (.lst acc) → Hb p = some (.lst acc) := fun st e => st.keep p _ hpL (fun z => hpI z) e
          match (ft s4 : M (Bool × S)), ec with
          | none, ec => cases ec
          | some (.ex _), ec => cases ec
          | some (.ok (b, s5)), ec =>
            intro H5 st5 W5
            have st5' : Step w L H1 L H5 := st4'.trans (st5.re rfl)
            have hp5 := keepP (st4.trans st5) hp3
            have ra5 : RpA K cl (hide (L ++ (w.more p).O0) H5) acc accD := ra3.mono ((st4.trans st5).seen Wm.sub)
            cases b with
            | false =>
              refine iteF ?_
              have ec : compL vs T ft fe (ds.drop (i + 1)) (wipeS s5 vs) = ok (zs, sE) := ec
              have W6 := W5.wiped vs
              rw [hw4] at W6
              exact ⟨acc, accD, wipeS s5 vs, zs, W6, st5', hp5, ra5, by omega, ec, ey, fun j hj x e => wipeS_in s5 j x vs hj e⟩
            | true =>
              refine iteT ⟨w.more p, L, s5, W5, ?_⟩
              have ec : bd (fe s5) (fun q => bd (compL vs T ft fe (ds.drop (i + 1)) (wipeS q.2 vs)) fun r => ok (q.1 :: r.1, r.2)) = ok (zs, sE) := ec
              match (fe s5 : M (D × S)), ec with
              | none, ec => cases ec
              | some (.ex _), ec => cases ec
              | some (.ok (y, s6)), ec =>
                intro v H6 st6 W6 rv
                have hp6 := keepP st6 hp5
                have ra6 : RpA K cl (hide (L ++ (w.more p).O0) H6) acc accD := ra5.mono (st6.seen Wm.sub)
                refine ⟨acc, hp6, by omega, ?_⟩
                have ec : bd (compL vs T ft fe (ds.drop (i + 1)) (wipeS s6 vs)) (fun r => ok (y :: r.1, r.2)) = ok (zs, sE) := ec
                generalize e7 : compL vs T ft fe (ds.drop (i + 1)) (wipeS s6 vs) = m7 at ec
                match m7, ec with
                | none, ec => cases ec
                | some (.ex _), ec => cases ec
                | some (.ok (zs', sE')), ec =>
                  cases ec
                  -- the list grows; it is hidden
                  have hne : ∀ a ∈ L, a ≠ p := fun a ha e => hpL (e ▸ ha)
                  have pin : p ∈ L ++ (w.more p).O0 := mem_more.mpr (.inl rfl)
                  have hh : hide (L ++ (w.more p).O0) (upd H6 p (.lst (acc ++ [v]))) = hide (L ++ (w.more p).O0) H6 := by
                    funext b
                    unfold hide
                    by_cases z : b ∈ L ++ (w.more p).O0
                    · rw [if_pos z, if_pos z]
                    · rw [if_neg z, if_neg z, upd_ne]
                      intro e
                      exact z (e ▸ pin)
                  have W7 := W6.wiped vs
                  rw [hw4] at W7
                  have own : ∀ {a d}, a ≠ p → OwnAt K cl (L ++ (w.more p).O0) H6 a d → OwnAt K cl (L ++ (w.more p).O0) (upd H6 p (.lst (acc ++ [v]))) a d := fun {a d} n q => q.move (upd_ne n) (by rw [hh]; exact Same.refl _)
                  have W8 : Wl K cl (w.more p) L (wipeS s6 vs) (wipe σ vs) (upd H6 p (.lst (acc ++ [v]))) := by
                    refine ⟨fun b o n e => ?_, W7.fresh, fun a ha => ?_, W7.disj, W7.sub, ⟨fun i d e => ?_, fun i d e => ?_, fun i d e => ?_, W7.st.inj, W7.st.ioj, W7.st.len⟩⟩
                    · by_cases z : b = p
                      · subst z
                        have := W1.keep b o n e
                        rw [np] at this; cases this
                      · rw [upd_ne z]; exact W7.keep b o n e
                    · by_cases z : a = p
                      · rw [z, upd_same]; simp
                      · rw [upd_ne z]; exact W7.alive a ha
                    · obtain ⟨u, q1, q2⟩ := W7.st.val i d e
                      exact ⟨u, q1, by rw [hh]; exact q2⟩
                    · obtain ⟨a, q1, q2, q3⟩ := W7.st.own i d e
                      exact ⟨a, q1, q2, own (hne a q2) q3⟩
                    · obtain ⟨q1, q2, q3⟩ := W7.st.io i d e
                      exact ⟨q1, q2, own (fun z => hpI (z ▸ q2)) q3⟩
                  refine ⟨acc ++ [v], accD ++ [y], wipeS s6 vs, zs', W8, ?_, upd_same, ?_, by rw [List.length_append]; simp; omega, e7, ?_, fun j hj x e => wipeS_in s6 j x vs hj e⟩
                  · have s6' : Step w L H1 L H6 := st5'.trans (st6.re rfl)
                    refine ⟨fun b o n1 n2 e => ?_, fun b e => ?_, s6'.new⟩
                    · rw [upd_ne (ne_of_none e np)]; exact s6'.keep b o n1 n2 e
                    · by_cases z : b = p
                      · rw [z, upd_same]; simp
                      · rw [upd_ne z]; exact s6'.alv b e
                  · rw [hh]; exact ra6.append (.cons rv .nil)
                  · rw [ey, List.append_assoc]; rfl
      · have ei : i = ds.length := by omega
        subst ei
        rw [List.drop_length] at ec
        have ec : (ok (([] : List D), s) : M (List D × S)) = ok (zs, sE) := ec
        cases ec
        rw [List.append_nil] at ey
        subst ey
        refine .inl ⟨it.stop _ _ H2 shi (Nat.le_refl _), ?_⟩
        have nw : ∀ a ∈ p :: L, a ∈ L ∨ H a = none := fun a ha => by
          rcases List.mem_cons.mp ha with z | z
          · refine .inr ?_
            cases q : H a with
            | none => rfl
            | some o => exact absurd (z ▸ np) (st1.alv a (by rw [q]; simp))
          · exact .inl z
        have sT := st1.trans stw
        refine h p H2 ⟨sT.keep, sT.alv, nw⟩ (W1.new_ne np) ?_ ?_ ⟨acc, hp, ra.mono (hide_sub fun a ha => ?_)⟩
        · exact Ws.back W1 np shi hun L (fun a z => .inl z) (fun a z => z)
        · exact Ws.back W1 np shi hun (p :: L) (fun a z => (List.mem_cons.mp z).symm) (fun a z => List.mem_cons_of_mem _ z)
        · refine mem_more.mpr ?_
          rcases List.mem_cons.mp ha with z | z
          · exact .inl z
          · exact .inr z
/-- [elt for tg in iter ..] -/
theorem f_comp {elt tg iter : Expr} {ifs : List Expr} {scope : Scope} {own : List (Str × Nat)} {fi : S → M (List D × S)} {ts : List Nat} {T : D → S → M S} {ft : S → M (Bool × S)} {fe : S → M (D × S)}
    (hc : X.calm = true) (hN : X.N.Nodup) (hi : PI X tg iter (TIof K cl fi)) (ok : BlkOk X.N X.env.scope scope own)
    (hg : ∀ (s : Shared) (H : Hp) (C : Addr) (cls : List (Str × Addr)) (fp : List Addr), PG (X.blk s H scope (compEnvC scope cls C X.env) fp) tg (TGof K cl ts T))
    (ht : ∀ (s : Shared) (H : Hp) (C : Addr) (cls : List (Str × Addr)) (fp : List Addr), PTs (X.blk s H scope (compEnvC scope cls C X.env) fp) ifs (TTof K cl ft))
    (he : ∀ (s : Shared) (H : Hp) (C : Addr) (cls : List (Str × Addr)) (fp : List Addr), PE (X.blk s H scope (compEnvC scope cls C X.env) fp) elt (TEof K cl fe))
    (hts : ∀ i ∈ ts, i ∈ own.map (·.2)) (hs : ∀ x, foldedSetIterable iter X.env x = pure x := by intro _; rfl) : PE X (.ListComp elt [⟨tg, iter, ifs, 0⟩] scope pos) (TFof K cl (dComp fi (own.map (·.2)) T ft fe)) :=
  iE (pe_lc hc hN hi ok hg ht he hs) (comp_read hts)
end
end Dt
namespace Dt
open L2 PySem PySem.Spec PyProof.Rows
/-! ### statements -/
inductive Out where
  | nx (s : S)
  | bk (s : S)
  | ct (s : S)
  | rt (d : D) (s : S)
  | rf (d : D) (s : S)
def PostS (K : PySem.W.Frag) (cl : Cl) (ts : List Nat) (w : Wf) (L : List Addr) (σ : L2.St) (H : Hp) (E : Ends) : M Out → Prop
  | some (.ok (.nx s')) => ∀ L' σ' H', Step w L H L' H' → Wl K cl w L' s' σ' H' → Agree ts σ σ' → E.nx σ' H'
  | some (.ok (.bk s')) => ∀ L' σ' H', Step w L H L' H' → Wl K cl w L' s' σ' H' → Agree ts σ σ' → E.bk σ' H'
  | some (.ok (.ct s')) => ∀ L' σ' H', Step w L H L' H' → Wl K cl w L' s' σ' H' → Agree ts σ σ' → E.ct σ' H'
  | some (.ok (.rt d s')) => ∀ L' σ' H' v, Step w L H L' H' → Wl K cl w L' s' σ' H' → Rp K cl (hide w.O0 H') v d → E.rt v H'
  | some (.ok (.rf d s')) => ∀ L' σ' H' p, Step w L H L' H' → Wl K cl w L' s' σ' H' → w.H0 p = none → p ∉ w.O0 → OwnAt K cl (p :: w.O0) H' p d → E.rt (.ref p) H'
  | _ => False
def TSof (K : PySem.W.Frag) (cl : Cl) (ts : List Nat) (f : S → M Out) : TS := fun E σ H => ∃ w L sd, Wl K cl w L sd σ H ∧ PostS K cl ts w L σ H E (f sd)
section
variable {K : PySem.W.Frag} {cl : Cl} {w : Wf} {L L1 : List Addr} {σ σ1 : L2.St} {H H1 : Hp} {E E' : Ends} {ts us : List Nat} {s1 : S}
theorem botS : Bot (PostS K cl ts w L σ H E) := ⟨fun h => h, fun _ h => h⟩
theorem Agree.refl : Agree ts σ σ := ⟨rfl, fun _ _ => rfl⟩
theorem Agree.trans {σ2 : L2.St} (a : Agree ts σ σ1) (b : Agree us σ1 σ2) : Agree (ts ++ us) σ σ2 :=
  ⟨b.len.trans a.len, fun i hi => (b.out i fun z => hi (List.mem_append_right _ z)).trans (a.out i fun z => hi (List.mem_append_left _ z))⟩
theorem Agree.le (a : Agree ts σ σ1) (h : ∀ i ∈ ts, i ∈ us) : Agree us σ σ1 := ⟨a.len, fun i hi => a.out i fun z => hi (h i z)⟩
/-- the statement's end, seen from further back -/
theorem PostS.from {m : M Out} (h : PostS K cl us w L σ H E m) (st : Step w L H L1 H1) (ag : ∀ σ', Agree ts σ1 σ' → Agree us σ σ') : PostS K cl ts w L1 σ1 H1 E m := by
  match m, h with
  | none, h => exact h.elim
  | some (.ex _), h => exact h.elim
  | some (.ok (.nx s)), h => exact fun L' σ' H' a b c => h L' σ' H' (st.trans a) b (ag σ' c)
  | some (.ok (.bk s)), h => exact fun L' σ' H' a b c => h L' σ' H' (st.trans a) b (ag σ' c)
  | some (.ok (.ct s)), h => exact fun L' σ' H' a b c => h L' σ' H' (st.trans a) b (ag σ' c)
  | some (.ok (.rt d s)), h => exact fun L' σ' H' v a b c => h L' σ' H' v (st.trans a) b c
  | some (.ok (.rf d s)), h => exact fun L' σ' H' v a b c d e => h L' σ' H' v (st.trans a) b c d e
end
/-! ### blocks -/
def sNil : S → M Out := fun s => ok (.nx s)
def sSeq (F G : S → M Out) : S → M Out := fun s => bd (F s) fun o => match o with
  | .nx s1 => G s1
  | o => ok o
def sBreak : S → M Out := fun s => ok (.bk s)
def sCont : S → M Out := fun s => ok (.ct s)
def sNever : S → M Out := fun _ => none
def sIf (c : S → M (Bool × S)) (F G : S → M Out) : S → M Out := fun s => bd (c s) fun p => if p.1 = true then F p.2 else G p.2
def sSet (i : Nat) (f : S → M (D × S)) : S → M Out := fun s => bd (f s) fun p => ok (.nx (p.2.set i (.val p.1)))
def sOwn (i : Nat) (f : S → M (D × S)) : S → M Out := fun s => bd (f s) fun p => ok (.nx (p.2.set i (.own p.1)))
def sAsg (f : S → M (D × S)) (T : D → S → M S) : S → M Out := fun s => bd (f s) fun p => bd (T p.1 p.2) fun s1 => ok (.nx s1)
def sPar (i j : Nat) (f : S → M (List D × S)) : S → M Out := fun s => bd (f s) fun p => match p.1 with
  | [d, e] => ok (.nx ((p.2.set i (.val d)).set j (.val e)))
  | _ => none
def sPar3 (i j l : Nat) (f : S → M (List D × S)) : S → M Out := fun s => bd (f s) fun p => match p.1 with
  | [d, e, g] => ok (.nx (((p.2.set i (.val d)).set j (.val e)).set l (.val g)))
  | _ => none
def sExpr (f : S → M (D × S)) : S → M Out := fun s => bd (f s) fun p => ok (.nx p.2)
def sRet (f : S → M (D × S)) : S → M Out := fun s => bd (f s) fun p => ok (.rt p.1 p.2)
def sRetF (f : S → M (D × S)) : S → M Out := fun s => bd (f s) fun p => ok (.rf p.1 p.2)
def sRetN : S → M Out := fun s => ok (.rt .non s)
def sRetO (i : Nat) : S → M Out := fun s => match s[i]? with
  | some (.own d) => ok (.rf d s)
  | _ => none
def sAugI (i : Nat) (f : S → M (D × S)) (g : Op2) : S → M Out := fun s => bd (dVar i s) fun q => bd (f q.2) fun p => bd (g q.1 p.1) fun r => ok (.nx (p.2.set i (.val r)))
section
variable {X : Cx} {K : PySem.W.Frag} {cl : Cl} {pos : Pos} {st : Stmt} {rest a b : List Stmt} {ts us : List Nat} {F G : S → M Out} {c : S → M (Bool × S)} {f : S → M (D × S)} {fr : S → M (List D × S)} {e ce : Expr}
theorem s_nil : PSs X [] (TSof K cl [] sNil) := by
  refine iSs pss_nil ?_
  rintro E σ H ⟨w, L, sd, W, h⟩
  exact h L σ H .refl W .refl
theorem seq_read {t u : TS} {E : Ends} {σ : L2.St} {H : Hp} (ht : t = TSof K cl ts F) (hu : u = TSof K cl us G) (h : TSof K cl (ts ++ us) (sSeq F G) E σ H) : tSeq t u E σ H := by
  subst ht hu
  obtain ⟨w, L, sd, W, h⟩ := h
  refine ⟨w, L, sd, W, ?_⟩
  have h : PostS K cl (ts ++ us) w L σ H E (bd (F sd) fun o => match o with
    | .nx s1 => G s1
    | o => ok o) := h
  match (F sd : M Out), h with
  | none, h => exact h.elim
  | some (.ex _), h => exact h.elim
  | some (.ok (.nx s)), h => exact fun L' σ' H' a b c => ⟨w, L', s, b, PostS.from h a fun σ2 d => c.trans d⟩
  | some (.ok (.bk s)), h => exact fun L' σ' H' a b c => h L' σ' H' a b (c.le fun i hi => List.mem_append_left _ hi)
  | some (.ok (.ct s)), h => exact fun L' σ' H' a b c => h L' σ' H' a b (c.le fun i hi => List.mem_append_left _ hi)
  | some (.ok (.rt d s)), h => exact h
  | some (.ok (.rf d s)), h => exact h
theorem s_cons (h1 : PS X st (TSof K cl ts F)) (h2 : PSs X rest (TSof K cl us G)) : PSs X (st :: rest) (TSof K cl (ts ++ us) (sSeq F G)) :=
  iSs (pss_cons h1 h2) fun E σ H h => seq_read rfl rfl h
theorem s_one (h1 : PS X st (TSof K cl ts F)) : PSs X [st] (TSof K cl ts F) := pss_one h1
theorem s_pass : PS X (.Pass pos) (TSof K cl [] sNil) := by
  refine iS ps_pass ?_
  rintro E σ H ⟨w, L, sd, W, h⟩
  exact h L σ H .refl W .refl
theorem s_break : PS X (.Break pos) (TSof K cl [] sBreak) := by
  refine iS ps_break ?_
  rintro E σ H ⟨w, L, sd, W, h⟩
  exact h L σ H .refl W .refl
theorem s_cont : PS X (.Continue pos) (TSof K cl [] sCont) := by
  refine iS ps_continue ?_
  rintro E σ H ⟨w, L, sd, W, h⟩
  exact h L σ H .refl W .refl
theorem s_never : PS X st (TSof K cl [] sNever) := by
  refine iS ps_never ?_
  rintro E σ H ⟨w, L, sd, W, h⟩
  exact h
theorem s_if (hc : PT X ce (TTof K cl c)) (ha : PSs X a (TSof K cl ts F)) (hb : PSs X b (TSof K cl us G)) : PS X (.If ce a b pos) (TSof K cl (ts ++ us) (sIf c F G)) := by
  refine iS (ps_if hc ha hb) ?_
  rintro E σ H ⟨w, L, sd, W, h⟩
  refine ⟨w, L, sd, W, PostT.bd botS h fun r s1 h H1 st1 W1 => ?_⟩
  cases r with
  | true => exact iteT ⟨w, L, s1, W1, PostS.from h st1 fun σ' a => a.le fun i hi => List.mem_append_left _ hi⟩
  | false => exact iteF ⟨w, L, s1, W1, PostS.from h st1 fun σ' a => a.le fun i hi => List.mem_append_right _ hi⟩
theorem agree_set {σ : L2.St} {i : Nat} {x : Option V} : Agree [i] σ (σ.set i x) := ⟨by rw [List.length_set], fun j hj => by
  rw [List.getElem?_set_ne]
  intro e
  exact hj (by simp [e])⟩
theorem s_set (i : Nat) {x : Str} {pos' : Pos} (hN : X.N.Nodup) (he : PE X e (TEof K cl f)) (hi : X.N[i]? = some x := by rfl) (hx : Loc X.env.scope x := by first | exact Or.inl rfl | exact Or.inr rfl) (hs : swapsWith e (some (.Name x pos')) pos.line X.env = pure false := by rfl)
    (hf : X.fn x = true ∨ X.env.scope.names.lookup x = some .local := by first | exact .inl rfl | exact .inr rfl) : PS X (.Assign [.Name x pos'] e pos) (TSof K cl [i] (sSet i f)) := by
  refine iS (ps_set hN hi hx he hs hf) ?_
  rintro E σ H ⟨w, L, sd, W, h⟩
  refine ⟨w, L, sd, W, PostE.bd botS h fun r s1 h v H1 st1 W1 rr => ?_⟩
  exact h L _ H1 st1 (W1.set rr) agree_set
/-- a slot takes a new list of the def's own -/
theorem Wl.setOwn {w : Wf} {L : List Addr} {sd : S} {σ : L2.St} {H : Hp} {p : Addr} {d : D} (i : Nat) (W1 : Wl K cl w L sd σ H) (np : p ∉ L ++ w.O0) (W : Wl K cl w (p :: L) sd σ H) (r : OwnAt K cl (p :: L ++ w.O0) H p d) : Wl K cl w (p :: L) (sd.set i (.own d)) (σ.set i (some (.ref p))) H := by
  have get : ∀ {j : Nat} {x : Sl}, j ≠ i → (sd.set i (.own d))[j]? = some x → sd[j]? = some x := fun h e => by rwa [List.getElem?_set_ne (Ne.symm h)] at e
  have getv : ∀ {j : Nat} {x : Option V}, j ≠ i → σ[j]? = some x → (σ.set i (some (.ref p)))[j]? = some x := fun h e => by rwa [List.getElem?_set_ne (Ne.symm h)]
  have gotv : ∀ {j : Nat} {x : Option V}, j ≠ i → (σ.set i (some (.ref p)))[j]? = some x → σ[j]? = some x := fun h e => by rwa [List.getElem?_set_ne (Ne.symm h)] at e
  have nown : ∀ {x : Sl}, (sd.set i (.own d))[i]? = some x → x = .own d ∧ i < sd.length := fun {x} e => by
    by_cases h : i < sd.length
    · rw [List.getElem?_set_self h] at e; cases e; exact ⟨rfl, h⟩
    · rw [List.getElem?_eq_none (by simpa using h)] at e; cases e
  have other : ∀ {j : Nat} {e : D}, sd[j]? = some (.own e) → σ[j]? = some (some (.ref p)) → False := fun {j e} h1 h2 => by
    obtain ⟨a, q1, q2, _⟩ := W1.st.own j e h1
    rw [h2] at q1
    cases q1
    exact np (List.mem_append_left _ q2)
  refine ⟨W.keep, W.fresh, W.alive, W.disj, W.sub, ⟨fun j e he => ?_, fun j e he => ?_, fun j e he => ?_, fun j k e f a he hf h1 h2 => ?_, fun j k e f he hf => ?_, by simpa using W.st.len⟩⟩
  · by_cases h : j = i
    · subst h; cases (nown he).1
    · obtain ⟨u, h1, h2⟩ := W.st.val j e (get h he)
      exact ⟨u, getv h h1, h2⟩
  · by_cases h : j = i
    · subst h
      obtain ⟨q, hl⟩ := nown he
      cases q
      exact ⟨p, List.getElem?_set_self (by rw [W.st.len]; exact hl), List.mem_cons_self, r⟩
    · obtain ⟨a, h1, h2, h3⟩ := W.st.own j e (get h he)
      exact ⟨a, getv h h1, h2, h3⟩
  · by_cases h : j = i
    · subst h; cases (nown he).1
    · obtain ⟨h1, h2, h3⟩ := W.st.io j e (get h he)
      exact ⟨getv h h1, h2, h3⟩
  · by_cases hj : j = i
    · by_cases hk : k = i
      · rw [hj, hk]
      · subst hj
        have hl := (nown he).2
        rw [List.getElem?_set_self (by rw [W.st.len]; exact hl)] at h1
        cases h1
        exact (other (get hk hf) (gotv hk h2)).elim
    · by_cases hk : k = i
      · subst hk
        have hl := (nown hf).2
        rw [List.getElem?_set_self (by rw [W.st.len]; exact hl)] at h2
        cases h2
        exact (other (get hj he) (gotv hj h1)).elim
      · exact W.st.inj j k e f a (get hj he) (get hk hf) (gotv hj h1) (gotv hk h2)
  · by_cases hj : j = i
    · subst hj; cases (nown he).1
    · by_cases hk : k = i
      · subst hk; cases (nown hf).1
      · exact W.st.ioj j k e f (get hj he) (get hk hf)
theorem s_own (i : Nat) {x : Str} {pos' : Pos} (hN : X.N.Nodup) (he : PE X e (TFof K cl f)) (hi : X.N[i]? = some x := by rfl) (hx : Loc X.env.scope x := by first | exact Or.inl rfl | exact Or.inr rfl) (hs : swapsWith e (some (.Name x pos')) pos.line X.env = pure false := by rfl)
    (hf : X.fn x = true ∨ X.env.scope.names.lookup x = some .local := by first | exact .inl rfl | exact .inr rfl) : PS X (.Assign [.Name x pos'] e pos) (TSof K cl [i] (sOwn i f)) := by
  refine iS (ps_set hN hi hx he hs hf) ?_
  rintro E σ H ⟨w, L, sd, W, h⟩
  refine ⟨w, L, sd, W, PostF.bd botS h fun r s1 h p H1 st1 np W1 W2 ho => ?_⟩
  exact h (p :: L) _ H1 st1 (W1.setOwn i np W2 ho) agree_set
theorem s_asg {tg : Expr} {T : D → S → M S} (he : PE X e (TEof K cl f)) (hg : PG X tg (TGof K cl ts T)) (hs : swapsWithSole [tg] e pos.line X.env = pure false := by rfl) (hw : swappedStores [tg] e X.env = pure none := by rfl)
    (h1 : (assignEach [tg] X.env).map (·.2) = [assign tg X.env] := by rfl) : PS X (.Assign [tg] e pos) (TSof K cl ts (sAsg f T)) := by
  refine iS (ps_asg he hg hs hw h1) ?_
  rintro E σ H ⟨w, L, sd, W, h⟩
  refine ⟨w, L, sd, W, PostE.bd botS h fun r s1 h v H1 st1 W1 rr => ?_⟩
  refine ⟨w, L, s1, r, W1, rr, ?_⟩
  dsimp only at h
  match (T r s1 : M S), h with
  | none, h => exact h.elim
  | some (.ex _), h => exact h.elim
  | some (.ok s2), h => exact fun σ2 H2 st2 W2 ag => h L σ2 H2 (st1.trans st2) W2 ag
theorem s_par {i j : Nat} {x y : Str} {a b : Expr} {px py pt : Pos} {kt k2 pt2} (hc : X.calm = true) (hN : X.N.Nodup) (ha : PA X [a, b] (TAof K cl fr)) (hi : X.N[i]? = some x := by rfl) (hj : X.N[j]? = some y := by rfl) (hij : i ≠ j := by decide)
    (hx : X.env.scope.names.lookup x = some .local := by rfl) (hy : X.env.scope.names.lookup y = some .local := by rfl)
    (hw : swappedStores [.Tuple [.Name x px, .Name y py] kt pt] (.Tuple [a, b] k2 pt2) X.env = pure (some [x, y]) := by rfl)
    (hs : swapsWithSole [.Tuple [.Name x px, .Name y py] kt pt]
          (.Tuple [a, b] k2 pt2) pos.line X.env = pure false := by rfl) :
    PS X (.Assign [.Tuple [.Name x px, .Name y py] kt pt] (.Tuple [a, b] k2 pt2) pos) (TSof K cl ([i] ++ [j]) (sPar i j fr)) := by
  refine iS (ps_par hc hN hi hj hij hx hy ha hw hs) ?_
  rintro E σ H ⟨w, L, sd, W, h⟩
  refine ⟨w, L, sd, W, PostA.bd botS h fun rs s1 h vs H1 st1 W1 rrs => ?_⟩
  dsimp only at h
  split at h
  · obtain ⟨v, u, rfl, r1, r2⟩ := rrs.two
    exact ⟨v, u, rfl, h L _ H1 st1 ((W1.set r1).set r2) (agree_set.trans agree_set)⟩
  · exact h.elim
theorem s_par3 {i j l : Nat} {x y z : Str} {a b c : Expr} {px py pz pt : Pos} {kt k2 pt2} (hc : X.calm = true) (hN : X.N.Nodup) (ha : PA X [a, b, c] (TAof K cl fr)) (hi : X.N[i]? = some x := by rfl) (hj : X.N[j]? = some y := by rfl) (hl : X.N[l]? = some z := by rfl) (hij : i ≠ j := by decide) (hil : i ≠ l := by decide) (hjl : j ≠ l := by decide)
    (hx : X.env.scope.names.lookup x = some .local := by rfl) (hy : X.env.scope.names.lookup y = some .local := by rfl) (hz : X.env.scope.names.lookup z = some .local := by rfl)
    (hw : swappedStores [.Tuple [.Name x px, .Name y py, .Name z pz] kt pt] (.Tuple [a, b, c] k2 pt2) X.env = pure (some [x, y, z]) := by rfl)
    (hs : swapsWithSole [.Tuple [.Name x px, .Name y py, .Name z pz] kt pt]
          (.Tuple [a, b, c] k2 pt2) pos.line X.env = pure false := by rfl) :
    PS X (.Assign [.Tuple [.Name x px, .Name y py, .Name z pz] kt pt] (.Tuple [a, b, c] k2 pt2) pos) (TSof K cl (([i] ++ [j]) ++ [l]) (sPar3 i j l fr)) := by
  refine iS (ps_par3 hc hN hi hj hl hij hil hjl hx hy hz ha hw hs) ?_
  rintro E σ H ⟨w, L, sd, W, h⟩
  refine ⟨w, L, sd, W, PostA.bd botS h fun rs s1 h vs H1 st1 W1 rrs => ?_⟩
  dsimp only at h
  split at h
  · cases rrs with
    | cons r1 rr =>
      obtain ⟨v, u, rfl, r2, r3⟩ := rr.two
      exact ⟨_, v, u, rfl, h L _ H1 st1 (((W1.set r1).set r2).set r3) ((agree_set.trans agree_set).trans agree_set)⟩
  · exact h.elim
theorem s_expr (he : PE X e (TEof K cl f)) (hs : swapsWith e none pos.line X.env = pure false := by rfl) : PS X (.Expr e pos) (TSof K cl [] (sExpr f)) := by
  refine iS (ps_expr he hs) ?_
  rintro E σ H ⟨w, L, sd, W, h⟩
  refine ⟨w, L, sd, W, PostE.bd botS h fun r s1 h v H1 st1 W1 rr => ?_⟩
  exact h L σ H1 st1 W1 .refl
theorem s_ret (he : PE X e (TEof K cl f)) : PS X (.Return (some e) pos) (TSof K cl [] (sRet f)) := by
  refine iS (ps_ret he) ?_
  rintro E σ H ⟨w, L, sd, W, h⟩
  refine ⟨w, L, sd, W, PostE.bd botS h fun r s1 h v H1 st1 W1 rr => ?_⟩
  exact h L σ H1 v st1 W1 (rr.mono W1.seen)
theorem s_retF (he : PE X e (TFof K cl f)) : PS X (.Return (some e) pos) (TSof K cl [] (sRetF f)) := by
  refine iS (ps_ret he) ?_
  rintro E σ H ⟨w, L, sd, W, h⟩
  refine ⟨w, L, sd, W, PostF.bd botS h fun r s1 h p H1 st1 np W1 W2 ho => ?_⟩
  refine h (p :: L) σ H1 p st1 W2 (W2.fresh p List.mem_cons_self) (fun z => np (List.mem_append_right _ z)) (ho.move rfl (hide_sub fun a ha => ?_))
  rcases List.mem_cons.mp ha with z | z
  · rw [z]; exact List.mem_cons_self
  · exact List.mem_cons_of_mem _ (List.mem_append_right _ z)
theorem s_retO (i : Nat) {x : Str} {pos' : Pos} (hN : X.N[i]? = some x := by rfl) (hv : Vis X.env.scope x := by first | exact Or.inl rfl | exact Or.inr (Or.inl rfl) | exact Or.inr (Or.inr rfl))
    (hd : (x == ("__debug__" : Str)) = false := by decide) (hcd : (x == ("__classdict__" : Str)) = false := by decide) : PS X (.Return (some (.Name x pos')) pos) (TSof K cl [] (sRetO i)) := by
  refine iS (ps_ret (pe_var hN hv hd hcd)) ?_
  rintro E σ H ⟨w, L, sd, W, h⟩
  unfold sRetO at h
  split at h
  · next d e =>
    obtain ⟨a, h1, h2, h3⟩ := W.st.own i d e
    refine ⟨_, h1, h L σ H a .refl W (W.fresh a h2) (W.disj a h2) (h3.move rfl (hide_sub fun b hb => ?_))⟩
    (rcases List.mem_cons.mp hb with z | z)
    · rw [z]; exact List.mem_append_left _ h2
    · exact List.mem_append_right _ z
  · exact h.elim
theorem s_retN : PS X (.Return none pos) (TSof K cl [] sRetN) := by
  refine iS ps_retN ?_
  rintro E σ H ⟨w, L, sd, W, h⟩
  exact h L σ H .non .refl W .non
/-- x op= e by a rule of two values -/
theorem s_aug (i : Nat) {x : Str} {op : Operator} {g : Op2} {pos' : Pos} (hN : X.N.Nodup) (ho : OpK X K cl (inplaceOp op) g) (he : PE X e (TEof K cl f)) (hi : X.N[i]? = some x := by rfl) (hx : Loc X.env.scope x := by first | exact Or.inl rfl | exact Or.inr rfl)
    (hf : X.fn x = true ∨ X.env.scope.names.lookup x = some .local := by first | exact .inl rfl | exact .inr rfl) : PS X (.AugAssign (.Name x pos') op e pos) (TSof K cl [i] (sAugI i f g)) := by
  obtain ⟨r, o1, o2⟩ := ho.it
  have ip : PIp X op (fun x y H Q => r x y H Q) := fun pins s σ H x y v u Q I r1 r2 h => o1 pins s σ H x y v u Q I r1 r2 h
  refine iS (ps_aug hN hi hx he ip hf) ?_
  rintro E σ H ⟨w, L, sd, W, h⟩
  unfold sAugI at h
  generalize e0 : dVar i sd = m at h
  unfold dVar at e0
  split at e0
  · next d e1 =>
    subst e0
    obtain ⟨v, h1, h2⟩ := W.st.val i d e1
    have h : PostS K cl [i] w L σ H E (bd (f sd) fun p => bd (g d p.1) fun r => ok (.nx (p.2.set i (.val r)))) := h
    refine ⟨v, h1, w, L, sd, W, PostE.bd botS h fun rd s1 h u H1 st1 W1 rr => ?_⟩
    refine o2 (L ++ w.O0) H1 v u d rd _ W1.alive (h2.mono (st1.sn W1)) rr ?_
    dsimp only at h
    match (g d rd : M D), h with
    | none, h => exact h.elim
    | some (.ex _), h => exact h.elim
    | some (.ok r2), h => exact fun z H3 sm rz => h L _ H3 (st1.trans (.of_same sm)) ((W1.ext sm).set rz) agree_set
  · subst e0; exact h.elim
end
end Dt
namespace Dt
open L2 PySem PySem.Spec PyProof.Rows
/-! ### while -/
def whileN (c : S → M (Bool × S)) (F : S → M Out) : Nat → S → M Out
  | 0, _ => none
  | n + 1, s => bd (c s) fun p => if p.1 = true then bd (F p.2) fun o => match o with
      | .nx s1 => whileN c F n s1
      | .ct s1 => whileN c F n s1
      | .bk s1 => ok (.nx s1)
      | o => ok o
    else ok (.nx p.2)
open Classical in
noncomputable def sWhile (c : S → M (Bool × S)) (F : S → M Out) : S → M Out := fun s => if h : ∃ n o, whileN c F n s = ok o then ok (choose (choose_spec h)) else none
theorem whileN_up {c : S → M (Bool × S)} {F : S → M Out} : ∀ {n : Nat} {s : S} {o : Out}, whileN c F n s = ok o → whileN c F (n + 1) s = ok o
  | 0, _, _, h => by cases h
  | n + 1, s, o, h => by
    rw [whileN] at h ⊢
    match (c s : M (Bool × S)), h with
    | none, h => cases h
    | some (.ex _), h => cases h
    | some (.ok (b, s1)), h =>
      have h : (if b = true then bd (F s1) fun o => match o with
        | .nx s1 => whileN c F n s1
        | .ct s1 => whileN c F n s1
        | .bk s1 => ok (.nx s1)
        | o => ok o
      else ok (.nx s1)) = ok o := h
      show (if b = true then bd (F s1) fun o => match o with
        | .nx s1 => whileN c F (n + 1) s1
        | .ct s1 => whileN c F (n + 1) s1
        | .bk s1 => ok (.nx s1)
        | o => ok o
      else ok (.nx s1)) = ok o
      cases b with
      | false => exact h
      | true =>
        rw [if_pos rfl] at h ⊢
        match (F s1 : M Out), h with
        | none, h => cases h
        | some (.ex _), h => cases h
        | some (.ok (.nx s2)), h => exact whileN_up (n := n) h
        | some (.ok (.ct s2)), h => exact whileN_up (n := n) h
        | some (.ok (.bk s2)), h => exact h
        | some (.ok (.rt d s2)), h => exact h
        | some (.ok (.rf d s2)), h => exact h
theorem whileN_le {c : S → M (Bool × S)} {F : S → M Out} {n : Nat} {s : S} {o : Out} (h : whileN c F n s = ok o) (k : Nat) : whileN c F (n + k) s = ok o := by
  induction k with
  | zero => exact h
  | succ k ih => exact whileN_up ih
theorem sWhile_of {c : S → M (Bool × S)} {F : S → M Out} {n : Nat} {s : S} {o : Out} (h : whileN c F n s = ok o) : sWhile c F s = ok o := by
  have e : ∃ n o, whileN c F n s = ok o := ⟨n, o, h⟩
  unfold sWhile
  rw [dif_pos e]
  have e2 := Classical.choose_spec (Classical.choose_spec e)
  generalize Classical.choose (Classical.choose_spec e) = o2 at e2
  have a := whileN_le h (Classical.choose e)
  have b := whileN_le e2 n
  rw [Nat.add_comm] at b
  exact b.symm.trans a
theorem of_sWhile {c : S → M (Bool × S)} {F : S → M Out} {s : S} {m : M Out} (h : sWhile c F s = m) : m = none ∨ ∃ n o, m = ok o ∧ whileN c F n s = ok o := by
  unfold sWhile at h
  split at h
  · next e => exact .inr ⟨_, _, h.symm, Classical.choose_spec (Classical.choose_spec e)⟩
  · exact .inl h.symm
/-! ### for -/
def forL (T : D → S → M S) (F : S → M Out) : List D → S → M Out
  | [], s => ok (.nx s)
  | d :: ds, s => bd (T d s) fun s1 => bd (F s1) fun o => match o with
    | .nx s2 => forL T F ds s2
    | .ct s2 => forL T F ds s2
    | .bk s2 => ok (.nx s2)
    | o => ok o
def sFor (fi : S → M (List D × S)) (T : D → S → M S) (F : S → M Out) : S → M Out := fun s => bd (fi s) fun p => forL T F p.1 p.2
section
variable {X : Cx} {K : PySem.W.Frag} {cl : Cl} {pos : Pos} {body : List Stmt} {ts us : List Nat} {F : S → M Out} {c : S → M (Bool × S)} {fi : S → M (List D × S)} {T : D → S → M S} {ce tg it : Expr}
theorem s_while (hp : PassesOwn (model X.prog X.w) X.A X.env X.xe) (hc : PT X ce (TTof K cl c)) (hb : PSs X body (TSof K cl ts F)) : PS X (.While ce body [] pos) (TSof K cl ts (sWhile c F)) := by
  refine iS (ps_while hp hc hb) ?_
  rintro E σ0 H0 ⟨w, L0, sd, W, h⟩
  rcases of_sWhile (c := c) (F := F) (s := sd) rfl with e | ⟨n, o, e, hn⟩
  · rw [e] at h; exact h.elim
  rw [e] at h
  refine ⟨fun m σ H => ∃ L s, Wl K cl w L s σ H ∧ Step w L0 H0 L H ∧ Agree ts σ0 σ ∧ whileN c F m s = ok o, ⟨n, L0, sd, W, .refl, .refl, hn⟩, ?_⟩
  rintro m σ H ⟨L, s, Ws, st, ag, hm⟩
  match m, hm with
  | 0, hm => cases hm
  | m + 1, hm =>
    rw [whileN] at hm
    refine ⟨w, L, s, Ws, ?_⟩
    match (c s : M (Bool × S)), hm with
    | none, hm => cases hm
    | some (.ex _), hm => cases hm
    | some (.ok (b, s1)), hm =>
      intro H1 st1 W1
      have st2 := st.trans st1
      cases b with
      | false =>
        refine iteF ?_
        have hm : ok (Out.nx s1) = ok o := hm
        cases hm
        exact h L σ H1 st2 W1 ag
      | true =>
        refine iteT ⟨fun σ' H' => ∃ L s, Wl K cl w L s σ' H' ∧ Step w L0 H0 L H' ∧ Agree ts σ0 σ' ∧ whileN c F m s = ok o, fun σ' H' q => ⟨m, Nat.lt_succ_self _, q⟩, w, L, s1, W1, ?_⟩
        have hm : (bd (F s1) fun o => match o with
          | .nx s1 => whileN c F m s1
          | .ct s1 => whileN c F m s1
          | .bk s1 => ok (.nx s1)
          | o => ok o) = ok o := hm
        have ag2 : ∀ {σ'}, Agree ts σ σ' → Agree ts σ0 σ' := fun q => (ag.trans q).le fun i hi => (List.mem_append.mp hi).elim id id
        match (F s1 : M Out), hm with
        | none, hm => cases hm
        | some (.ex _), hm => cases hm
        | some (.ok (.nx s2)), hm => exact fun L' σ' H' a b q => ⟨L', s2, b, st2.trans a, ag2 q, hm⟩
        | some (.ok (.ct s2)), hm => exact fun L' σ' H' a b q => ⟨L', s2, b, st2.trans a, ag2 q, hm⟩
        | some (.ok (.bk s2)), hm => cases hm; exact fun L' σ' H' a b q => h L' σ' H' (st2.trans a) b (ag2 q)
        | some (.ok (.rt d s2)), hm => cases hm; exact fun L' σ' H' v a b q => h L' σ' H' v (st2.trans a) b q
        | some (.ok (.rf d s2)), hm => cases hm; exact fun L' σ' H' v a b q r t => h L' σ' H' v (st2.trans a) b q r t
theorem s_for (hp : PassesOwn (model X.prog X.w) X.A X.env X.xe) (hi : PI X tg it (TIof K cl fi)) (hg : PG X tg (TGof K cl us T)) (hb : PSs X body (TSof K cl ts F)) (hc : X.calm = true := by rfl) (hs : ∀ v, foldedSetIterable it X.env v = pure v := by intro _; rfl) : PS X (.For tg it body [] pos) (TSof K cl (us ++ ts) (sFor fi T F)) := by
  refine iS (ps_for hp hc hi hg hb hs) ?_
  rintro E σ0 H0 ⟨w, L0, sd, W, h⟩
  unfold sFor at h
  refine ⟨w, L0, sd, W, ?_⟩
  match (fi sd : M (List D × S)), h with
  | none, h => exact h.elim
  | some (.ex _), h => exact h.elim
  | some (.ok (ds, s1)), h =>
    intro J H1 st1 W1 it
    have h : PostS K cl (us ++ ts) w L0 σ0 H0 E (forL T F ds s1) := h
    generalize e0 : forL T F ds s1 = m at h
    match m, h with
    | none, h => exact h.elim
    | some (.ex _), h => exact h.elim
    | some (.ok o), h =>
      refine ⟨fun i m σ H => m = ds.length - i ∧ i ≤ ds.length ∧ ∃ L s, Wl K cl w L s σ H ∧ Step w L0 H1 L H ∧ Agree (us ++ ts) σ0 σ ∧ forL T F (ds.drop i) s = ok o, ⟨ds.length, by omega, Nat.zero_le _, L0, s1, W1, .refl, .refl, e0⟩, ?_⟩
      rintro i m σ H ⟨rfl, hi, L, s, Ws, st, ag, hm⟩
      have shi : Same (hide (L0 ++ w.O0) H1) (hide (L ++ w.O0) H) := st.seen W.sub
      by_cases hlt : i < ds.length
      · refine .inr ⟨it.go i _ H shi hlt, fun σ' H' => ∃ L s, Wl K cl w L s σ' H' ∧ Step w L0 H1 L H' ∧ Agree (us ++ ts) σ0 σ' ∧ forL T F (ds.drop (i + 1)) s = ok o, fun σ' H' q => ⟨ds.length - (i + 1), by omega, rfl, hlt, q⟩, fun x H2 hy => ?_⟩
        obtain ⟨sm, hx⟩ := it.yld i _ H x H2 shi Ws.alive hy
        have hx := hx ds[i] (List.getElem?_eq_getElem hlt)
        rw [List.drop_eq_getElem_cons hlt] at hm
        have W2 := Ws.ext sm
        have st2 := st.trans (.of_same sm)
        refine ⟨w, L, s, ds[i], W2, hx, ?_⟩
        have hm : (bd (T ds[i] s) fun s1 => bd (F s1) fun o => match o with
          | .nx s2 => forL T F (ds.drop (i + 1)) s2
          | .ct s2 => forL T F (ds.drop (i + 1)) s2
          | .bk s2 => ok (.nx s2)
          | o => ok o) = ok o := hm
        match (T ds[i] s : M S), hm with
        | none, hm => cases hm
        | some (.ex _), hm => cases hm
        | some (.ok s3), hm =>
          intro σ3 H3 st3 W3 ag3
          refine ⟨w, L, s3, W3, ?_⟩
          have st3 := st2.trans st3
          have ag4 : ∀ {σ'}, Agree ts σ3 σ' → Agree (us ++ ts) σ0 σ' := fun q => (ag.trans (ag3.trans q)).le fun i hi => (List.mem_append.mp hi).elim id id
          have hm : (bd (F s3) fun o => match o with
            | .nx s2 => forL T F (ds.drop (i + 1)) s2
            | .ct s2 => forL T F (ds.drop (i + 1)) s2
            | .bk s2 => ok (.nx s2)
            | o => ok o) = ok o := hm
          match (F s3 : M Out), hm with
          | none, hm => cases hm
          | some (.ex _), hm => cases hm
          | some (.ok (.nx s4)), hm => exact fun L' σ' H' a b q => ⟨L', s4, b, st3.trans a, ag4 q, hm⟩
          | some (.ok (.ct s4)), hm => exact fun L' σ' H' a b q => ⟨L', s4, b, st3.trans a, ag4 q, hm⟩
          | some (.ok (.bk s4)), hm => cases hm; exact fun L' σ' H' a b q => h L' σ' H' ((st1.trans st3).trans a) b (ag4 q)
          | some (.ok (.rt d s4)), hm => cases hm; exact fun L' σ' H' v a b q => h L' σ' H' v ((st1.trans st3).trans a) b q
          | some (.ok (.rf d s4)), hm => cases hm; exact fun L' σ' H' v a b q r t => h L' σ' H' v ((st1.trans st3).trans a) b q r t
      · have ei : i = ds.length := by omega
        subst ei
        rw [List.drop_length] at hm
        cases hm
        exact .inl ⟨it.stop _ _ H shi (Nat.le_refl _), h L σ H (st1.trans st) Ws ag⟩
end
end Dt
namespace Dt
open L2 PySem PySem.Spec PyProof.Rows
/-! ### lists of the def's own: stored, read, changed -/
/-- the content of an own slot -/
def ownL : Option Sl → Option (List D)
  | some (.own (.lst ds)) => some ds
  | some (.io (.lst ds)) => some ds
  | _ => none
/-- .. changed -/
def putL (s : S) (i : Nat) (ds : List D) : S := match s[i]? with
  | some (.io _) => s.set i (.io (.lst ds))
  | _ => s.set i (.own (.lst ds))
def sApp (i : Nat) (f : S → M (D × S)) : S → M Out := fun s => match ownL s[i]? with
  | some _ => bd (f s) fun p => match ownL p.2[i]? with
    | some ds => if ds.length < sizeLine then ok (.nx (putL p.2 i (ds ++ [p.1]))) else none
    | none => none
  | none => none
def sPut (i : Nat) (fk f : S → M (D × S)) : S → M Out := fun s => bd (f s) fun p => match ownL p.2[i]? with
  | some _ => bd (fk p.2) fun q => match ownL q.2[i]?, q.1 with
    | some ds, .int k => match ixN ds.length k with
      | some j => ok (.nx (putL q.2 i (ds.set j p.1)))
      | none => none
    | _, _ => none
  | none => none
def dOwnIx (i : Nat) (fk : S → M (D × S)) : S → M (D × S) := fun s => match ownL s[i]? with
  | some _ => bd (fk s) fun q => match ownL q.2[i]?, q.1 with
    | some ds, .int k => match atI ds k with
      | some d => ok (d, q.2)
      | none => none
    | _, _ => none
  | none => none
def viewS (s : S) : S := s.map fun x => match x with
  | .own d => .val d
  | .io d => .val d
  | x => x
def dView (f : S → M (D × S)) : S → M (D × S) := fun s => bd (f (viewS s)) fun p => if p.1.scal = true then ok (p.1, s) else none
def tView (f : S → M (Bool × S)) : S → M (Bool × S) := fun s => bd (f (viewS s)) fun p => ok (p.1, s)
/-- an own list becomes a value -/
def pubS (i : Nat) (s : S) : S := match s[i]? with
  | some (.own d) => s.set i (.val d)
  | _ => s
def sPub (i : Nat) (F : S → M Out) : S → M Out := fun s => F (pubS i s)
section
variable {X : Cx} {K : PySem.W.Frag} {cl : Cl} {pos : Pos} {w : Wf} {L : List Addr} {sd : S} {σ : L2.St} {H : Hp} {f fk : S → M (D × S)} {F : S → M Out} {e ke : Expr} {ts : List Nat}
/-- where an own slot's list stands -/
theorem Wl.at (W : Wl K cl w L sd σ H) {i : Nat} {ds : List D} (h : ownL sd[i]? = some ds) : ∃ a xs, σ[i]? = some (some (.ref a)) ∧ (a ∈ L ∨ (a = w.a0 ∧ a ∈ w.I)) ∧ H a = some (.lst xs) ∧ RpA K cl (hide (L ++ w.O0) H) xs ds := by
  match q : sd[i]?, h with
  | some (.own (.lst es)), h =>
    cases h
    obtain ⟨a, h1, h2, xs, h3, h4⟩ := W.st.own i _ q
    exact ⟨a, xs, h1, .inl h2, h3, h4⟩
  | some (.io (.lst es)), h =>
    cases h
    obtain ⟨h1, h2, xs, h3, h4⟩ := W.st.io i _ q
    exact ⟨w.a0, xs, h1, .inr ⟨rfl, h2⟩, h3, h4⟩
theorem hide_in {O : List Addr} {H : Hp} {a : Addr} {o : HO} (h : a ∈ O) : hide O (upd H a o) = hide O H := by
  funext b
  unfold hide
  by_cases z : b ∈ O
  · rw [if_pos z, if_pos z]
  · rw [if_neg z, if_neg z, upd_ne]
    rintro rfl
    exact z h
/-- the data of an own slot -/
def ownD : Option Sl → Option D
  | some (.own d) => some d
  | some (.io d) => some d
  | _ => none
def putD (s : S) (i : Nat) (d : D) : S := match s[i]? with
  | some (.io _) => s.set i (.io d)
  | _ => s.set i (.own d)
theorem putD_len (s : S) (i : Nat) (d : D) : (putD s i d).length = s.length := by
  unfold putD
  split <;> rw [List.length_set]
theorem putD_ne (s : S) (i j : Nat) (d : D) (h : j ≠ i) : (putD s i d)[j]? = s[j]? := by
  unfold putD
  split <;> rw [List.getElem?_set_ne (Ne.symm h)]
theorem Wl.atD (W : Wl K cl w L sd σ H) {i : Nat} {d : D} (h : ownD sd[i]? = some d) : ∃ a, σ[i]? = some (some (.ref a)) ∧ (a ∈ L ∨ (a = w.a0 ∧ a ∈ w.I)) ∧ OwnAt K cl (L ++ w.O0) H a d := by
  match q : sd[i]?, h with
  | some (.own es), h =>
    cases h
    obtain ⟨a, h1, h2, h3⟩ := W.st.own i _ q
    exact ⟨a, h1, .inl h2, h3⟩
  | some (.io es), h =>
    cases h
    obtain ⟨h1, h2, h3⟩ := W.st.io i _ q
    exact ⟨w.a0, h1, .inr ⟨rfl, h2⟩, h3⟩
/-- what an own slot holds is changed, all else stays -/
theorem Wl.wrote (W : Wl K cl w L sd σ H) {H' : Hp} {i : Nat} {d0 d1 : D} {a : Addr} (h : ownD sd[i]? = some d0) (hσ : σ[i]? = some (some (.ref a))) (ha : a ∈ L ∨ (a = w.a0 ∧ a ∈ w.I)) (hl : H a ≠ none)
    (kp : ∀ b o, b ≠ a → H b = some o → H' b = some o) (hnew : OwnAt K cl (L ++ w.O0) H' a d1) : Wl K cl w L (putD sd i d1) σ H' ∧ Step w L H L H' := by
  have hin : a ∈ L ++ w.O0 := by
    rcases ha with z | z
    · (exact List.mem_append_left _ z)
    · exact List.mem_append_right _ (W.sub a z.2)
  have hh : Same (hide (L ++ w.O0) H) (hide (L ++ w.O0) H') := fun b o e => by
    obtain ⟨n, e⟩ := hide_some.mp e
    exact hide_some.mpr ⟨n, kp b o (fun z => n (z ▸ hin)) e⟩
  have own : ∀ {b d}, b ≠ a → OwnAt K cl (L ++ w.O0) H b d → OwnAt K cl (L ++ w.O0) H' b d := fun {b d} n q => by
    refine q.move ?_ hh
    cases z : H b with
    | none => exact absurd z q.some
    | some o => exact kp b o n z
  have hk : (∃ d, sd[i]? = some (.own d)) ∨ ∃ d, sd[i]? = some (.io d) := by
    match q : sd[i]?, h with
    | some (.own es), h => exact .inl ⟨_, rfl⟩
    | some (.io es), h => exact .inr ⟨_, rfl⟩
  have hlen : i < sd.length := by
    rcases hk with ⟨d, e⟩ | ⟨d, e⟩ <;> exact (List.getElem?_eq_some_iff.mp e).1
  have ne_own : ∀ {j : Nat} {d : D} {b : Addr}, j ≠ i → sd[j]? = some (.own d) → σ[j]? = some (some (.ref b)) → b ≠ a := fun {j d b} hj e1 e2 e3 => by
    subst e3
    rcases hk with ⟨d', e⟩ | ⟨d', e⟩
    · exact hj (W.st.inj j i d d' b e1 e e2 hσ)
    · obtain ⟨q1, q2, _⟩ := W.st.io i d' e
      rw [hσ] at q1
      cases q1
      obtain ⟨c, p1, p2, _⟩ := W.st.own j d e1
      rw [e2] at p1
      cases p1
      exact W.disj _ p2 (W.sub _ q2)
  have ne_io : ∀ {j : Nat} {d : D}, j ≠ i → sd[j]? = some (.io d) → w.a0 ≠ a := fun {j d} hj e1 e3 => by
    rcases hk with ⟨d', e⟩ | ⟨d', e⟩
    · obtain ⟨c, p1, p2, _⟩ := W.st.own i d' e
      rw [hσ] at p1
      cases p1
      obtain ⟨_, q2, _⟩ := W.st.io j d e1
      rw [← e3] at p2
      exact W.disj _ p2 (W.sub _ q2)
    · exact hj (W.st.ioj j i d d' e1 e)
  have alv : ∀ b, H b ≠ none → H' b ≠ none := fun b e => by
    by_cases z : b = a
    · rw [z]; exact hnew.some
    · cases q : H b with
      | none => exact absurd q e
      | some o => rw [kp b o z q]; simp
  -- a slot of the new state
  have put : ∀ {j : Nat} {x : Sl}, (putD sd i d1)[j]? = some x → (j ≠ i ∧ sd[j]? = some x) ∨ (j = i ∧ ((x = .own d1 ∧ ∃ d', sd[i]? = some (.own d')) ∨ (x = .io d1 ∧ ∃ d', sd[i]? = some (.io d')))) := fun {j x} e => by
    by_cases hj : j = i
    · subst hj
      refine .inr ⟨rfl, ?_⟩
      unfold putD at e
      rcases hk with ⟨d', q⟩ | ⟨d', q⟩
      · rw [q] at e
        dsimp only at e
        rw [List.getElem?_set_self hlen] at e
        cases e
        exact .inl ⟨rfl, d', q⟩
      · rw [q] at e
        dsimp only at e
        rw [List.getElem?_set_self hlen] at e
        cases e
        exact .inr ⟨rfl, d', q⟩
    · rw [putD_ne _ _ _ _ hj] at e
      exact .inl ⟨hj, e⟩
  have pown : ∀ {j : Nat} {d : D}, (putD sd i d1)[j]? = some (.own d) → ∃ d2, sd[j]? = some (.own d2) := fun {j d} e => by
    rcases put e with ⟨_, q⟩ | ⟨rfl, ⟨_, q⟩ | ⟨q, _⟩⟩
    · exact ⟨d, q⟩
    · exact q
    · cases q
  have pio : ∀ {j : Nat} {d : D}, (putD sd i d1)[j]? = some (.io d) → ∃ d2, sd[j]? = some (.io d2) := fun {j d} e => by
    rcases put e with ⟨_, q⟩ | ⟨rfl, ⟨q, _⟩ | ⟨_, q⟩⟩
    · exact ⟨d, q⟩
    · cases q
    · exact q
  refine ⟨⟨fun b o n e => ?_, W.fresh, fun b hb => alv b (W.alive b hb), W.disj, W.sub, ⟨fun j d e => ?_, fun j d e => ?_, fun j d e => ?_, fun j k d d' b h1 h2 h3 h4 => ?_, fun j k d d' h1 h2 => ?_, by rw [putD_len]; exact W.st.len⟩⟩, ⟨fun b o n1 n2 e => ?_, alv, fun b hb => .inl hb⟩⟩
  · by_cases z : b = a
    · subst z
      rcases ha with y | y
      · rw [W.fresh b y] at e; cases e
      · exact absurd y.2 n
    · exact kp b o z (W.keep b o n e)
  · rcases put e with ⟨hj, q⟩ | ⟨_, ⟨q, _⟩ | ⟨q, _⟩⟩
    · obtain ⟨v, q1, q2⟩ := W.st.val j d q
      exact ⟨v, q1, q2.mono hh⟩
    · cases q
    · cases q
  · rcases put e with ⟨hj, q⟩ | ⟨rfl, ⟨q, d', q'⟩ | ⟨q, _⟩⟩
    · obtain ⟨c, p1, p2, p3⟩ := W.st.own j d q
      exact ⟨c, p1, p2, own (ne_own hj q p1) p3⟩
    · cases q
      obtain ⟨c, p1, p2, _⟩ := W.st.own j d' q'
      rw [hσ] at p1
      cases p1
      exact ⟨a, hσ, p2, hnew⟩
    · cases q
  · rcases put e with ⟨hj, q⟩ | ⟨rfl, ⟨q, _⟩ | ⟨q, d', q'⟩⟩
    · obtain ⟨p1, p2, p3⟩ := W.st.io j d q
      exact ⟨p1, p2, own (ne_io hj q) p3⟩
    · cases q
    · cases q
      obtain ⟨p1, p2, _⟩ := W.st.io j d' q'
      rw [hσ] at p1
      cases p1
      exact ⟨hσ, p2, hnew⟩
  · obtain ⟨_, g1⟩ := pown h1
    obtain ⟨_, g2⟩ := pown h2
    exact W.st.inj j k _ _ b g1 g2 h3 h4
  · obtain ⟨_, g1⟩ := pio h1
    obtain ⟨_, g2⟩ := pio h2
    exact W.st.ioj j k _ _ g1 g2
  · refine kp b o ?_ e
    rintro rfl
    rcases ha with y | y
    · exact n1 y
    · exact n2 y.2
theorem putL_D (s : S) (i : Nat) (ds : List D) : putL s i ds = putD s i (.lst ds) := rfl
theorem ownL_D {o : Option Sl} {ds : List D} (h : ownL o = some ds) : ownD o = some (.lst ds) := by
  match o, h with
  | some (.own (.lst es)), h => cases h; rfl
  | some (.io (.lst es)), h => cases h; rfl
/-- an own list is changed -/
theorem Wl.write (W : Wl K cl w L sd σ H) {i : Nat} {ds es : List D} {a : Addr} {ys : List V} (h : ownL sd[i]? = some ds) (hσ : σ[i]? = some (some (.ref a))) (ha : a ∈ L ∨ (a = w.a0 ∧ a ∈ w.I)) (hl : H a ≠ none)
    (r : RpA K cl (hide (L ++ w.O0) H) ys es) : Wl K cl w L (putL sd i es) σ (upd H a (.lst ys)) ∧ Step w L H L (upd H a (.lst ys)) := by
  have hin : a ∈ L ++ w.O0 := by
    rcases ha with z | z
    · (exact List.mem_append_left _ z)
    · exact List.mem_append_right _ (W.sub a z.2)
  rw [putL_D]
  exact W.wrote (ownL_D h) hσ ha hl (fun b o n e => by rw [upd_ne n]; exact e) ⟨ys, upd_same, by rw [hide_in hin]; exact r⟩
/-- xs.append(e) -/
theorem s_app (i : Nat) {x : Str} {p0 apos cpos : Pos} (he : PE X e (TEof X.K cl f)) (hN : X.N[i]? = some x := by rfl) (hv : Vis X.env.scope x := by first | exact Or.inl rfl | exact Or.inr (Or.inl rfl) | exact Or.inr (Or.inr rfl))
    (hd : (x == ("__debug__"
          : Str)) = false := by decide) (hcd : (x == ("__classdict__" : Str)) = false := by decide)
    (hbase : attributeBase (.Name x p0) "append" X.env (eval (.Name x p0) X.env) = eval (.Name x p0) X.env := by rfl)
    (hfew :
          ((backTo cpos (starEach [e] X.env)).all (fun x => !x.1) && (backToKw cpos (keywordEach [] X.env)).all (fun x => x.1.isSome)
      && decide (([e]
            : List Expr).length + ([] : List Keyword).length + (if ([] : List Keyword).isEmpty then 0 else 1) < 30)) = true := by rfl)
    (hline : (apos.endLine == cpos.line) = true := by rfl) (hs : starEach [e] X.env = (false, eval e X.env) :: starEach [] X.env := by rfl) (hplain : (backTo cpos (starEach [] X.env)).any (·.1) = false := by rfl)
    (hsw : swapsWith (.Call (.Attribute (.Name x p0) "append" apos) [e] [] cpos) none pos.line X.env = pure false := by rfl) :
    PS X (.Expr (.Call (.Attribute (.Name x p0) "append" apos) [e] [] cpos) pos) (TSof X.K cl [] (sApp i f)) := by
  refine iS (ps_expr (pe_bm PySem.F.plainAttrs_list PySem.F.slot_list_append PySem.F.type_list_append mt_append (pe_var hN hv hd hcd) (pa_cons he pa_nil hs) hbase hfew hline hs hplain) hsw) ?_
  rintro E σ H ⟨w, L, sd, W, h⟩
  unfold sApp at h
  split at h
  · next ds0 e0 =>
    obtain ⟨a, xs, h1, h2, h3, h4⟩ := W.at e0
    refine ⟨.ref a, h1, .inl ⟨rfl, xs, SqL.of h3⟩, w, L, sd, W, PostE.bd botS h fun r s1 h v H1 st1 W1 rr => ?_⟩
    dsimp only at h
    split at h
    · next ds e1 =>
      obtain ⟨a', xs', q1, q2, q3, q4⟩ := W1.at e1
      rw [h1] at q1
      cases q1
      split at h
      · next c =>
        obtain ⟨W2, st2⟩ := W1.write (es := ds ++ [r]) (ys := xs' ++ [v]) e1 h1 q2 (by rw [q3]; simp) (q4.append (.cons rr .nil))
        exact ⟨a, xs', v, rfl, rfl, q3, by rw [q4.len]; exact c, h L σ _ (st1.trans st2) W2 .refl⟩
      · exact h.elim
    · exact h.elim
  · exact h.elim
/-- xs[k] = e -/
theorem s_put (i : Nat) {x : Str} {p0 spos : Pos} (he : PE X e (TEof K cl f)) (hk : PE X ke (TEof K cl fk)) (hN : X.N[i]? = some x := by rfl) (hv : Vis X.env.scope x := by first | exact Or.inl rfl | exact Or.inr (Or.inl rfl) | exact Or.inr (Or.inr rfl))
    (hd : (x == ("__debug__"
          : Str)) = false := by decide) (hcd : (x == ("__classdict__" : Str)) = false := by decide)
    (ha : ∀ v, assign (.Subscript (.Name x p0) ke spos) X.env v = (do
      let ov ← holding [v] (eval (.Name x p0) X.env)
      let iv ← holding [v, ov] (eval ke X.env)
      standAt spos
      (holding [v, ov, iv] (setItem ov iv v))
      release [v, ov, iv] []) := by intro _; rfl)
    (hs : swapsWithSole [.Subscript (.Name x p0) ke spos] e pos.line X.env = pure false := by rfl) (hw : swappedStores [.Subscript (.Name x p0) ke spos] e X.env = pure none := by rfl)
    (h1 : (assignEach [.Subscript (.Name x p0) ke spos] X.env).map (·.2) = [assign (.Subscript (.Name x p0) ke spos) X.env] := by rfl) :
    PS X (.Assign [.Subscript (.Name x p0) ke spos] e pos) (TSof K cl [] (sPut i fk f)) := by
  refine iS (ps_asg he (pg_sub (pe_var hN hv hd hcd) hk set_list ha) hs hw h1) ?_
  rintro E σ H ⟨w, L, sd, W, h⟩
  refine ⟨w, L, sd, W, PostE.bd botS h fun r s1 h v H1 st1 W1 rr => ?_⟩
  dsimp only at h
  split at h
  · next ds0 e0 =>
    obtain ⟨a, xs, q1, q2, q3, q4⟩ := W1.at e0
    refine ⟨.ref a, q1, w, L, s1, W1, PostE.bd botS h fun k s2 h u H2 st2 W2 rk => ?_⟩
    dsimp only at h
    split at h
    · next ds k' e1 =>
      cases rk
      obtain ⟨a', xs', p1, p2, p3, p4⟩ := W2.at e1
      rw [q1] at p1
      cases p1
      split at h
      · next j e2 =>
        obtain ⟨W3, st3⟩ := W2.write (es := ds.set j r) (ys := xs'.set j v) e1 q1 p2 (by rw [p3]; simp) (p4.set j (rr.mono (st2.sn W2)))
        exact ⟨a, xs', k', j, rfl, rfl, p3, by rw [p4.len]; exact e2, h L σ _ ((st1.trans st2).trans st3) W3 .refl⟩
      · exact h.elim
    · exact h.elim
  · exact h.elim
/-- xs[k] of an own list -/
theorem d_ownIx (i : Nat) {x : Str} {p0 spos : Pos} (hk : PE X ke (TEof X.K cl fk)) (hp : PlainIx ke := by exact fun _ _ => rfl) (hN : X.N[i]? = some x := by rfl) (hv : Vis X.env.scope x := by first | exact Or.inl rfl | exact Or.inr (Or.inl rfl) | exact Or.inr (Or.inr rfl))
    (hd : (x == ("__debug__" : Str)) = false := by decide) (hcd : (x == ("__classdict__" : Str)) = false := by decide) : PE X (.Subscript (.Name x p0) ke spos) (TEof X.K cl (dOwnIx i fk)) := by
  refine iE (pe_ix ix_list (pe_var hN hv hd hcd) hk hp) ?_
  rintro σ H Q ⟨w, L, sd, W, h⟩
  unfold dOwnIx at h
  split at h
  · next ds0 e0 =>
    obtain ⟨a, xs, q1, q2, q3, q4⟩ := W.at e0
    refine ⟨.ref a, q1, w, L, sd, W, PostE.bd botE h fun k s2 h u H2 st2 W2 rk => ?_⟩
    dsimp only at h
    split at h
    · next ds k' e1 =>
      cases rk
      obtain ⟨a', xs', p1, p2, p3, p4⟩ := W2.at e1
      rw [q1] at p1
      cases p1
      split at h
      · next d e2 =>
        unfold atI at e2
        rw [← p4.len] at e2
        cases e3 : ixN xs'.length k' with
        | none => rw [e3] at e2; cases e2
        | some j =>
          rw [e3] at e2
          obtain ⟨v, g1, g2⟩ := p4.get j e2
          refine ⟨a, xs', k', v, rfl, rfl, SqL.of p3, ?_, h v H2 st2 W2 g2⟩
          unfold atI
          rw [e3]
          exact g1
      · exact h.elim
    · exact h.elim
  · exact h.elim
/-! ### all lists seen for a moment -/
theorem viewS_get (s : S) (i : Nat) : (viewS s)[i]? = (s[i]?).map fun x => match x with
  | .own d => .val d
  | .io d => .val d
  | x => x := by unfold viewS; rw [List.getElem?_map]
theorem Wl.view (W : Wl K cl w L sd σ H) : Wl K cl ⟨w.O0.filter fun a => a ∉ w.I, [], w.a0, H⟩ [] (viewS sd) σ H := by
  have nO : ∀ {a}, a ∈ ([] : List Addr) ++ (w.O0.filter fun a => a ∉ w.I) → a ∈ w.O0 ∧ a ∉ w.I := fun {a} h => by simpa using h
  have sm : Same (hide (L ++ w.O0) H) (hide (([] : List Addr) ++ (w.O0.filter fun a => a ∉ w.I)) H) := hide_sub fun a h => List.mem_append_right _ (nO h).1
  refine ⟨fun _ _ _ e => e, fun a h => by simp at h, fun a h => W.alive a (List.mem_append_right _ (nO h).1), fun a h => by simp at h, fun a h => by simp at h, ⟨fun i d e => ?_, fun i d e => ?_, fun i d e => ?_, fun i j d d' a e => ?_, fun i j d d' e => ?_, by unfold viewS; rw [List.length_map]; exact W.st.len⟩⟩
  · rw [viewS_get] at e
    match q : sd[i]?, e with
    | some (.val d'), e =>
      cases e
      obtain ⟨v, h1, h2⟩ := W.st.val i _ q
      exact ⟨v, h1, h2.mono sm⟩
    | some (.own d'), e =>
      cases e
      obtain ⟨a, h1, h2, h3⟩ := W.st.own i _ q
      exact ⟨.ref a, h1, h3.rp (fun z => W.disj a h2 (nO z).1) sm⟩
    | some (.io d'), e =>
      cases e
      obtain ⟨h1, h2, h3⟩ := W.st.io i _ q
      exact ⟨_, h1, h3.rp (fun z => (nO z).2 h2) sm⟩
  · rw [viewS_get] at e
    match q : sd[i]?, e with
    | some (.val d'), e => cases e
    | some (.own d'), e => cases e
    | some (.io d'), e => cases e
    | some .un, e => cases e
  · rw [viewS_get] at e
    match q : sd[i]?, e with
    | some (.val d'), e => cases e
    | some (.own d'), e => cases e
    | some (.io d'), e => cases e
    | some .un, e => cases e
  · rw [viewS_get] at e
    match q : sd[i]?, e with
    | some (.val d'), e => cases e
    | some (.own d'), e => cases e
    | some (.io d'), e => cases e
    | some .un, e => cases e
  · rw [viewS_get] at e
    match q : sd[i]?, e with
    | some (.val d'), e => cases e
    | some (.own d'), e => cases e
    | some (.io d'), e => cases e
    | some .un, e => cases e
theorem d_view (h : PE X e (TEof K cl f)) : PE X e (TEof K cl (dView f)) := by
  refine iE h ?_
  rintro σ H Q ⟨w, L, sd, W, h⟩
  refine ⟨_, [], _, W.view, PostE.bd (P := PostE K cl w L σ H Q) botE h fun r s1 h v H1 st1 W1 rr => ?_⟩
  have sm : Same H H1 := fun b o e => st1.keep b o (by simp) (by simp) e
  dsimp only at h
  split at h
  · next c => exact h v H1 (.of_same sm) (W.ext sm) (rr.scal c)
  · exact h.elim
theorem t_view {f : S → M (Bool × S)} (h : PT X e (TTof K cl f)) : PT X e (TTof K cl (tView f)) := by
  refine iT h ?_
  rintro σ H Q ⟨w, L, sd, W, h⟩
  refine ⟨_, [], _, W.view, PostT.bd (P := PostT K cl w L σ H Q) botT h fun r s1 h H1 st1 W1 => ?_⟩
  have sm : Same H H1 := fun b o e => st1.keep b o (by simp) (by simp) e
  exact h H1 (.of_same sm) (W.ext sm)
/-! ### an own list is seen from now on -/
theorem pub_read {i0 : Nat} {E : Ends} (h : TSof K cl ts (sPub i0 F) E σ H) : TSof K cl ts F E σ H := by
  obtain ⟨w, L, sd, W, h⟩ := h
  unfold sPub pubS at h
  split at h
  · next d e =>
    obtain ⟨a, h1, h2, h3⟩ := W.st.own i0 d e
    have mem : ∀ {b}, b ∈ L.filter (fun x => x ≠ a) ↔ b ∈ L ∧ b ≠ a := by intro b; simp
    have sm : Same (hide (L ++ w.O0) H) (hide (L.filter (fun x => x ≠ a) ++ w.O0) H) := hide_sub fun b hb => by
      rcases List.mem_append.mp hb with z | z
      · exact List.mem_append_left _ (mem.mp z).1
      · exact List.mem_append_right _ z
    have hlen : i0 < sd.length := (List.getElem?_eq_some_iff.mp e).1
    have na : a ∉ L.filter (fun x => x ≠ a) ++ w.O0 := fun z => by
      rcases List.mem_append.mp z with z | z
      · exact (mem.mp z).2 rfl
      · exact W.disj a h2 z
    have get : ∀ {j : Nat} {x : Sl}, j ≠ i0 → (sd.set i0 (.val d))[j]? = some x → sd[j]? = some x := fun h e => by rwa [List.getElem?_set_ne (Ne.symm h)] at e
    have self : ∀ {x : Sl}, (sd.set i0 (.val d))[i0]? = some x → x = .val d := fun {x} q => by
      rw [List.getElem?_set_self hlen] at q; cases q; rfl
    refine ⟨w, L.filter (fun x => x ≠ a), sd.set i0 (.val d), ⟨W.keep, fun b hb => W.fresh b (mem.mp hb).1, fun b hb => W.alive b ?_, fun b hb => W.disj b (mem.mp hb).1, W.sub, ⟨fun j d' q => ?_, fun j d' q => ?_, fun j d' q => ?_, fun j k d1 d2 b q1 q2 => ?_, fun j k d1 d2 q1 q2 => ?_, by simpa using W.st.len⟩⟩, ?_⟩
    · rcases List.mem_append.mp hb with z | z
      · exact List.mem_append_left _ (mem.mp z).1
      · exact List.mem_append_right _ z
    · by_cases hj : j = i0
      · subst hj
        cases self q
        exact ⟨_, h1, h3.rp na sm⟩
      · obtain ⟨v, p1, p2⟩ := W.st.val j d' (get hj q)
        exact ⟨v, p1, p2.mono sm⟩
    · by_cases hj : j = i0
      · subst hj; cases self q
      · obtain ⟨b, p1, p2, p3⟩ := W.st.own j d' (get hj q)
        refine ⟨b, p1, mem.mpr ⟨p2, ?_⟩, p3.move rfl sm⟩
        rintro rfl
        exact hj (W.st.inj j i0 d' d b (get hj q) e p1 h1)
    · by_cases hj : j = i0
      · subst hj; cases self q
      · obtain ⟨p1, p2, p3⟩ := W.st.io j d' (get hj q)
        exact ⟨p1, p2, p3.move rfl sm⟩
    · by_cases hj : j = i0
      · subst hj; cases self q1
      · by_cases hk : k = i0
        · subst hk; cases self q2
        · exact W.st.inj j k d1 d2 b (get hj q1) (get hk q2)
    · by_cases hj : j = i0
      · subst hj; cases self q1
      · by_cases hk : k = i0
        · subst hk; cases self q2
        · exact W.st.ioj j k d1 d2 (get hj q1) (get hk q2)
    · have st : ∀ {L' H'}, Step w (L.filter fun x => x ≠ a) H L' H' → Step w L H L' H' := fun s => ⟨fun b o n1 n2 e => s.keep b o (fun z => n1 (mem.mp z).1) n2 e, s.alv, fun b hb => (s.new b hb).imp (fun z => (mem.mp z).1) id⟩
      match (F (sd.set i0 (.val d)) : M Out), h with
      | none, h => exact h.elim
      | some (.ex _), h => exact h.elim
      | some (.ok (.nx s)), h => exact fun L' σ' H' a b c => h L' σ' H' (st a) b c
      | some (.ok (.bk s)), h => exact fun L' σ' H' a b c => h L' σ' H' (st a) b c
      | some (.ok (.ct s)), h => exact fun L' σ' H' a b c => h L' σ' H' (st a) b c
      | some (.ok (.rt d s)), h => exact fun L' σ' H' v a b c => h L' σ' H' v (st a) b c
      | some (.ok (.rf d s)), h => exact fun L' σ' H' v a b c d e => h L' σ' H' v (st a) b c d e
  · exact ⟨w, L, sd, W, h⟩
theorem s_pub (i : Nat) {sts : List Stmt} (h : PSs X sts (TSof K cl ts F)) : PSs X sts (TSof K cl ts (sPub i F)) := iSs h fun E σ H q => pub_read q
theorem s_pub1 (i : Nat) {st : Stmt} (h : PS X st (TSof K cl ts F)) : PS X st (TSof K cl ts (sPub i F)) := iS h fun E σ H q => pub_read q
end
end Dt
namespace Dt
open L2 PySem PySem.Spec PyProof.Rows
/-! ### defs, called where nothing is being shown (guards) -/
structure FnG (P : Program) (w : World) (K : PySem.W.Frag) (mg : Str → Option Value) (base : Heap) (CX : CXT) (k : Nat) (f : Addr) (fd : FuncData) (ps : List Str) (sp : Sp) : Prop where
  len : ∀ vs H Q E, sp vs H Q E
        → vs.length = ps.length
  go : ∀ (A : Around) (outer : List Env) (s : Shared) (H : Hp) (args : Args) (us : List Value) (vs : List V) (Q : VK) (E : XK), A.guards = some [] → Room k A →
    Env0 P w K mg base A outer s H → BindsTo s fd args (ps.zip us) → Vals vs us → sp vs H Q E → codeAny (model P w) A (.call (.ref f) args) (CR CX outer P w H s Q E) s
section
variable {P : Program} {w : World} {K : PySem.W.Frag} {mg : Str → Option Value} {base : Heap} {CX : CXT} {k j : Nat} {f : Addr} {fd : FuncData} {ps : List Str} {sp sp' : Sp}
theorem FnG.mono (F : FnG P w K mg base CX j f fd ps sp) (h : j ≤ k) : FnG P w K mg base CX k f fd ps sp :=
  ⟨F.len, fun A outer s H args us vs Q E hg hr => F.go A outer s H args us vs Q E hg (hr.mono h)⟩
theorem FnG.imp (F : FnG P w K mg base CX k f fd ps sp) (h : ∀ vs H Q E, sp' vs H Q E → sp vs H Q E) : FnG P w K mg base CX k f fd ps sp' :=
  ⟨fun vs H Q E q => F.len vs H Q E (h _ _ _ _ q), fun A outer s H args us vs Q E hg hr e b r q => F.go A outer s H args us vs Q E hg hr e b r (h _ _ _ _ q)⟩
/-- one run of a def, by its body -/
theorem run_def {name qual : Str} {params : Arguments} {body : List Stmt} {scope : Scope} {dV kV doc pm cdv ct oc : Value} {an od : Option Addr} {osl : Array (Option Value)} {N : List Str} {A : Around} {outer : List Env} {s : Shared} {H : Hp} {args : Args} {us : List Value} {vs : List V} {Q : VK} {E : XK} {t : TS}
    (at_f : K.lookup f = some ⟨oc, od, .func (PySem.W.fnOf name qual params body scope dV kV doc pm an cdv ct), osl⟩) (code_f : PySem.W.codeIn K cdv qual = true) (sc : FnScope N ps scope) (room : Room (k + 1) A)
    (e0 : Env0 P w K mg base A outer s H) (bt : BindsTo s (PySem.W.fnOf name qual params body scope dV kV doc pm an cdv ct) args (ps.zip us)) (rv : Vals vs us) (nargs : vs.length = ps.length)
    (walk : PSs (cxOf CX P w K mg base N qual scope f cdv A outer s H E) body t) (told : t { nx := fun _ H' => Q .non H', rt := Q } (start N vs) H) :
    codeAny
          (model P w) A (.call (.ref f) args) (CR CX outer P w H s Q E) s := by
  have inK := e0.mod.kin.keeps fun b o e => (e0.bs b o e).1
  have kinds : ∀ y ∈ ps.zip us, scope.names.lookup y.1 = some .local ∨
      (scope.names.lookup y.1 = some .cell ∧ ((cellsFrom (s.heap.objs.size + 1) scope.names []).lookup y.1).isSome = true) := by
    rintro ⟨n, v⟩ hy
    exact (sc.par n (List.of_mem_zip hy).1).imp id fun q => ⟨q, PySem.W.cellsFrom_some _ _ _ (.inl q)⟩
  refine codeAny_call_function room.depth (inK _ _ at_f) rfl sc.co sc.gen rfl
    (PySem.W.codeRec_of inK code_f) (bt _ _ _ _ (wpAny_newFunctionEnv_cells sc.kind kinds fun env he s1 x => ?_))
  subst he
  have lim : s.heap.NoLimit := e0.mod.nolimit.keeps
    fun b o e => (e0.bs b o e).1
  have I0 := inv_start (CX := CX) (E := E) sc room.hd e0 nargs rv x
  refine ⟨lim.keeps x.toInCall.keep, codeAny_func (wpAny_mono (walk.run [] s1 (start N vs) H _ I0 told) ?_ fun _ _ z => z)⟩
  intro fl s' z
  match fl, z with
  | .ret u, ⟨v, σ', H', J, r, q⟩ => exact ⟨v, H', J.os, J.bare, J.base, J.hok, r, q⟩
  | .next, ⟨σ', H', J, q⟩ => exact ⟨.non, H', J.os, J.bare, J.base, J.hok, rfl, q⟩
  | .brk, ⟨_, _, _, q⟩ => exact q.elim
  | .cont, ⟨_, _, _, q⟩ => exact q.elim
/-- a def without defaults -/
theorem okG {x qual : Str} {st : Stmt} {N : List Str} (F : Fun K x qual st f fd) (sc : FnScope N ps (defScope st)) (len : ∀ vs H Q E, sp vs H Q E → vs.length = ps.length)
    (h : ∀ (cdv : Value) (A : Around) (outer : List Env) (s : Shared) (H : Hp) (vs : List V) (Q : VK) (E : XK), A.guards = some [] → Room k (A.deeper (envOfC qual (defScope st) s.heap.objs.size f cdv)) → sp vs H Q E →
      ∃ t, PSs (cxOf CX0 P w K mg base N qual (defScope st) f cdv A outer s H E).nox (defBody st) t ∧ t { nx := fun _ H' => Q .non H', rt := Q } (start N vs) H) : FnG P w K mg base CX0 (k + 1) f fd ps sp := by
  (obtain ⟨oc, od, kV, doc, pm, an, cdv, ct, osl, rfl, lk, hcd⟩ := F.ex)
  refine ⟨len, fun A outer s H args us vs Q E hg hr e0 hb r hs => ?_⟩
  obtain ⟨t, h1, h2⟩ := h cdv A outer s H vs Q E hg (hr.deeper _) hs
  exact run_def lk hcd sc hr e0 hb r (len _ _ _ _ hs) h1.nox h2
/-- a def with defaults -/
theorem okGD {x qual : Str} {params : Arguments} {body : List Stmt} {scope : Scope} {dvs : List V} {kws : List (Str × V)} {N : List Str} (F : FunD K x qual params body scope dvs kws f fd) (sc : FnScope N ps scope) (len : ∀ vs H Q E, sp vs H Q E → vs.length = ps.length)
    (h : ∀ (cdv : Value) (A : Around) (outer : List Env) (s : Shared) (H : Hp) (vs : List V) (Q : VK) (E : XK), A.guards = some [] → Room k (A.deeper (envOfC qual scope s.heap.objs.size f cdv)) → sp vs H Q E →
      ∃ t, PSs (cxOf CX0 P w K mg base N qual scope f cdv A outer s H E).nox body t ∧ t { nx := fun _ H' => Q .non H', rt := Q } (start N vs) H) : FnG P w K mg base CX0 (k + 1) f fd ps sp := by
  (obtain ⟨oc, od, dV, kV, doc, pm, an, cdv, ct, osl, rfl, lk, hcd, _, _⟩ := F.ex)
  refine ⟨len, fun A outer s H args us vs Q E hg hr e0 hb r hs => ?_⟩
  obtain ⟨t, h1, h2⟩ := h cdv A outer s H vs Q E hg (hr.deeper _) hs
  exact run_def lk hcd sc hr e0 hb r (len _ _ _ _ hs) h1.nox h2
end
section
variable {X : Cx} {CX : CXT} {k n : Nat} {f : Addr} {fd : FuncData} {ps ks : List Str} {sp : Sp} {dvs : List V} {ds : List Value} {E : XK} {x : Str} {p pos : Pos} {e : Expr} {es : List Expr} {kws : List Keyword} {t tk : TA} {g : List Value → List Value → List Value} {gV : List V → List V → List V}
theorem ret_of {pins : List (Addr × Obj)} {σ : L2.St} {H : Hp} {s : Shared} {Q : VK} (hx : Passes CX X E) (I : Inv X pins σ H s) : ∀ (r : Result) (s' : Shared), CR CX X.stack X.prog X.w H s Q E r s' →
    (match r with
      | .ok (.ret u) => EP X pins σ Q u s'
      | .error e => X.xe e s'
      | _ => False)
  | .error e, s', h => hx pins σ H s e s' I h
  | .ok (.ret u), s', h => I.after h
  | .ok .next, _, h => h.elim
  | .ok .brk, _, h => h.elim
  | .ok .cont, _, h => h.elim
theorem ran {pins : List (Addr × Obj)} {σ : L2.St} {H : Hp} {s : Shared} {Q : VK} {us : List Value} {kw : List (Str × Value)} (hx : Passes CX X E) (I : Inv X pins σ H s)
    (h : codeAny (model X.prog X.w) X.A (.call (.ref f) ⟨us, kw⟩) (CR CX X.stack X.prog X.w H s Q E) s) : wpAny (model X.prog X.w) X.A (call (.ref f) us kw) (EP X pins σ Q) X.xe s := by
  refine wpAny_call (codeAny_mono h fun r s' hq => ?_)
  have q := ret_of hx I r s' hq
  match r, q with
  | .error e, q => exact q
  | .ok (.ret u), q => exact q
/-- f(e, ..) -/
theorem pe_callG (F : FnG X.prog X.w X.K X.mg X.base CX k f fd ps sp) (hgd : X.A.guards = some []) (hr : Room k X.A) (hm : X.mg x = some (.ref f)) (hk : PySem.W.keepIn X.K (.ref f) = true) (hb : Binds X.K fd ps ds) (hd : Vals dvs ds) (hx : Passes CX X E)
    (ha : PA X (e :: es) t) (hg : Gl X x := by rfl) (hdb : (x == ("__debug__" : Str)) = false := by decide) (hs : starEach (e :: es) X.env = (false, eval e X.env) :: starEach es X.env := by rfl)
    (hpl : (backTo pos (starEach es X.env)).any (·.1) = false := by rfl) : PE X (.Call (.Name x p) (e :: es) [] pos) (tCall sp dvs E t) := by
  constructor
  intro pins s σ H Q I h
  refine wpAny_Call_Name_kw (ld_glob I hg hm (PySem.W.callWith_K (h₀ := X.base) I.ok.mod.kin hk (thn (ha.run pos pins s σ H _ I h) ?_) hs hpl) hdb)
  rintro us s1 ⟨vs, H1, I1, r, q⟩
  have rr : Vals (vs ++ dvs) (us ++ ds) := r.append hd
  have hl : (us ++ ds).length = ps.length := rr.length.symm.trans (F.len _ _ _ _ q)
  exact ⟨I1.kIn, ran hx I1 (F.go X.A X.stack s1 H1 ⟨us, []⟩ (us ++ ds) (vs ++ dvs) Q E hgd hr I1.env0 (hb s1 us I1.kIn hl) rr q)⟩
/-- f() -/
theorem pe_callG0 (F : FnG X.prog X.w X.K X.mg X.base CX k f fd ps sp) (hgd : X.A.guards = some []) (hr : Room k X.A) (hm : X.mg x = some (.ref f)) (hk : PySem.W.keepIn X.K (.ref f) = true) (hb : Binds X.K fd ps ds) (hd : Vals dvs ds) (hx : Passes CX X E)
    (hg : Gl X x := by rfl) (hdb : (x == ("__debug__" : Str)) = false := by decide) : PE X (.Call (.Name x p) [] [] pos) (tCall sp dvs E tNil) := by
  constructor
  intro pins s σ H Q I h
  have q : sp ([] ++ dvs) H Q E := h
  have hl : (([] : List Value) ++ ds).length = ps.length := hd.length.symm.trans (F.len _ _ _ _ q)
  exact wpAny_Call_Name_kw (ld_glob I hg hm (PySem.W.callWith_K0 I.kIn hk (ran hx I (F.go X.A X.stack s H ⟨[], []⟩ ([] ++ ds) ([] ++ dvs) Q E hgd hr I.env0 (hb s [] I.kIn hl) hd q))) hdb)
/-- f(e, .., k = v, ..) -/
theorem pe_callKG (F : FnG X.prog X.w X.K X.mg X.base CX k f fd ps sp) (hgd : X.A.guards = some []) (hr : Room k X.A) (hm : X.mg x = some (.ref f)) (hk : PySem.W.keepIn X.K (.ref f) = true) (hb : KBn X.K fd ps n ks g gV) (hx : Passes CX X E)
    (ha : PA X (e :: es) t) (hkw : PK X kws tk) (hg : Gl X x := by rfl) (hall : (backToKw pos (keywordEach kws X.env)).all (·.1.isSome) = true := by rfl) (hks : (backToKw pos (keywordEach kws X.env)).filterMap (·.1) = ks := by rfl)
    (hdb : (x == ("__debug__" : Str)) = false := by decide) (hs : starEach (e :: es) X.env = (false, eval e X.env) :: starEach es X.env := by rfl)
    (hpl : ((backTo pos
          (starEach (e :: es) X.env)).any (·.1) || (backToKw pos (keywordEach kws X.env)).any (·.1.isNone)) = false := by rfl) :
    PE X (.Call
          (.Name x p) (e :: es) kws pos) (tCallN n ks.length sp gV E t tk) := by
  constructor
  intro pins s σ H Q I h
  refine wpAny_Call_Name_kw (ld_glob I hg hm (PySem.W.callWith_KW (h₀ := X.base) I.ok.mod.kin hk hall (thn (ha.run pos pins s σ H _ I h) ?_) hpl hs) hdb)
  rintro us s1 ⟨vs, H1, I1, r, q⟩
  refine thn (hkw.run pos pins s1 σ H1 _ I1 q) ?_
  rintro ws s2 ⟨zs, H2, I2, rz, l1, l2, q2⟩
  rw [hks]
  have r2 := hb.rel r rz
  exact ⟨I2.kIn, ran hx I2 (F.go X.A X.stack s2 H2 ⟨us, ks.zip ws⟩ (g us ws) (gV vs zs) Q E hgd hr I2.env0 (hb.to s2 us ws I2.kIn (r.length.symm.trans l1) (rz.length.symm.trans l2)) r2 q2)⟩
end
/-! ### promises by functions of the data -/
abbrev FnD := List D → M D
/-- a def that changes nothing: its value by the data of its arguments -/
def spP (K : PySem.W.Frag) (cl : Cl) (n : Nat) (f : FnD) : Sp := fun vs H Q _ => vs.length = n ∧ ∃ (O : List Addr) (ds : List D), (∀ a ∈ O, H a ≠ none) ∧ RpA K cl (hide O H) vs ds ∧ Fin1 K cl O H Q (f ds)
/-- .. that makes a new list or dict -/
def spF (K : PySem.W.Frag) (cl : Cl) (n : Nat) (f : FnD) : Sp := fun vs H Q _ => vs.length = n ∧ ∃ (O : List Addr) (ds : List D), (∀ a ∈ O, H a ≠ none) ∧ RpA K cl (hide O H) vs ds ∧
  (match f ds with
    | some (.ok r) => ∀ p H', Same H H' → H p = none → OwnAt K cl (p :: O) H' p r → Q (.ref p) H'
    | _ => False)
/-- .. that changes its first argument -/
def spI (K : PySem.W.Frag) (cl : Cl) (n : Nat) (f : D → List D → M (D × D)) : Sp := fun vs H Q _ => vs.length = n ∧ ∃ (O : List Addr) (a : Addr) (d : D) (ws : List V) (ds : List D), vs = .ref a :: ws ∧ (∀ b ∈ O, H b ≠ none) ∧ a ∈ O ∧ OwnAt K cl O H a d ∧ RpA K cl (hide O H) ws ds ∧
  (match f d ds with
    | some (.ok (r, d')) => ∀ v H', (∀ b o, b ≠ a → H b = some o → H' b = some o) → OwnAt K cl O H' a d' → Rp K cl (hide O H') v r → Q v H'
    | _ => False)
/-- a def's data from its body's -/
def runP (n : Nat) (F : S → M Out) : FnD := fun ds => bd (F (ds.map Sl.val ++ List.replicate (n - ds.length) Sl.un)) fun (o : Out) => match o with
  | .nx _ => ok .non
  | .rt d _ => ok d
  | .rf d _ => ok d
  | _ => none
def runF (n : Nat) (F : S → M Out) : FnD := fun ds => bd (F (ds.map Sl.val ++ List.replicate (n - ds.length) Sl.un)) fun (o : Out) => match o with
  | .rf d _ => ok d
  | _ => none
def runI (n : Nat) (F : S → M Out) : D → List D → M (D × D) := fun d ds => bd (F (.io d :: (ds.map Sl.val ++ List.replicate (n - (ds.length + 1)) Sl.un))) fun (o : Out) => match o with
  | .nx s => match s[0]? with
    | some (Sl.io d') => ok (.non, d')
    | _ => none
  | .rt r s => match s[0]? with
    | some (Sl.io d') => ok (r, d')
    | _ => none
  | _ => none
section
variable {K : PySem.W.Frag} {cl : Cl} {n : Nat} {H : Hp} {vs : List V} {ds : List D} {O : List Addr}
theorem start_len (N : List Str) (vs : List V) : (start N vs).length = vs.length + (N.length - vs.length) := by
  unfold L2.start
  (rw [List.length_append, List.length_map, List.length_replicate])
/-- the state at the entry -/
theorem wl_start (N : List Str) (al : ∀ a ∈ O, H a ≠ none) (r : RpA K cl (hide O H) vs ds) : Wl K cl ⟨O, [], 0, H⟩ [] (ds.map Sl.val ++ List.replicate (N.length - ds.length) Sl.un) (start N vs) H := by
  have e := r.len
  refine ⟨fun _ _ _ e => e, fun a h => by simp at h, fun a h => al a (by simpa using h), fun a h => by simp at h, fun a h => by simp at h, ⟨fun i d q => ?_, fun i d q => ?_, fun i d q => ?_, fun i j d d' a q => ?_, fun i j d d' q => ?_, ?_⟩⟩
  · by_cases hi : i < ds.length
    · rw [List.getElem?_append_left (by simpa using hi), List.getElem?_map] at q
      cases z : ds[i]? with
      | none => rw [z] at q; cases q
      | some d2 =>
        rw [z] at q
        cases q
        obtain ⟨v, h1, h2⟩ := r.get i z
        refine ⟨v, ?_, h2⟩
        unfold L2.start
        rw [List.getElem?_append_left (by rw [List.length_map]; omega), List.getElem?_map, h1]
        rfl
    · rw [List.getElem?_append_right (by simpa using hi), List.getElem?_replicate] at q
      split at q <;> cases q
  all_goals first
    | (by_cases hi : i < ds.length
       · rw [List.getElem?_append_left (by simpa using hi), List.getElem?_map] at q
         cases z : ds[i]? with
         | none => rw [z] at q; cases q
         | some d2 => rw [z] at q; cases q
       · rw [List.getElem?_append_right (by simpa using hi), List.getElem?_replicate] at q
         split at q <;> cases q)
    | (rw [start_len, List.length_append, List.length_map, List.length_replicate, e])
/-- a body that keeps to its data keeps the promise -/
theorem walkP {N : List Str} {X : Cx} {body : List Stmt} {ts : List Nat} {F : S → M Out} {Q : VK} (hb : PSs X body (TSof K cl ts F)) (h : spP K cl n (runP N.length F) vs H Q E0) : ∃ t, PSs X body t ∧ t { nx := fun _ H' => Q .non H', rt := Q } (start N vs) H := by
  refine ⟨_, hb, ?_⟩
  obtain ⟨_, O, ds, al, r, h⟩ := h
  refine ⟨_, [], _, wl_start N al r, ?_⟩
  unfold runP at h
  match (F (ds.map Sl.val ++ List.replicate (N.length - ds.length) Sl.un) : M Out), h with
  | none, h => exact h.elim
  | some (.ex _), h => exact h.elim
  | some (.ok (.nx s)), h => exact fun L' σ' H' a b c => h .non H' (fun b o e => a.keep b o (by simp) (by simp) e) .non
  | some (.ok (.rt d s)), h => exact fun L' σ' H' v a b c => h v H' (fun b o e => a.keep b o (by simp) (by simp) e) c
  | some (.ok (.rf d s)), h => exact fun L' σ' H' p a b c d e => h (.ref p) H' (fun b o e => a.keep b o (by simp) (by simp) e) (e.rp d (hide_sub fun x hx => List.mem_cons_of_mem _ hx))
theorem walkF {N : List Str} {X : Cx} {body : List Stmt} {ts : List Nat} {F : S → M Out} {Q : VK} (hb : PSs X body (TSof K cl ts F)) (h : spF K cl n (runF N.length F) vs H Q E0) : ∃ t, PSs X body t ∧ t { nx := fun _ H' => Q .non H', rt := Q } (start N vs) H := by
  refine ⟨_, hb, ?_⟩
  obtain ⟨_, O, ds, al, r, h⟩ := h
  refine ⟨_, [], _, wl_start N al r, ?_⟩
  unfold runF at h
  match (F (ds.map Sl.val ++ List.replicate (N.length - ds.length) Sl.un) : M Out), h with
  | none, h => exact h.elim
  | some (.ex _), h => exact h.elim
  | some (.ok (.rf d s)), h => exact fun L' σ' H' p a b c d e => h p H' (fun b o e => a.keep b o (by simp) (by simp) e) c e
/-- the state at the entry, the first argument is changed for the caller -/
theorem wl_startI {a : Addr} {d : D} {ws : List V} (N : List Str) (hN : vs.length ≤ N.length) (e0 : vs = .ref a :: ws) (al : ∀ b ∈ O, H b ≠ none) (ha : a ∈ O) (ho : OwnAt K cl O H a d) (r : RpA K cl (hide O H) ws ds) :
    Wl K cl ⟨O, [a], a, H⟩ [] (.io d :: (ds.map Sl.val ++ List.replicate (N.length - (ds.length + 1)) Sl.un)) (start N vs) H := by
  have e := r.len
  have st : start N vs = some (.ref a) :: (ws.map some ++ List.replicate (N.length - (ds.length + 1)) none) := by
    unfold L2.start
    rw [e0, List.map_cons, List.length_cons, e]
    rfl
  have tl : ∀ {i : Nat} {x : Sl}, (ds.map Sl.val ++ List.replicate (N.length - (ds.length + 1)) Sl.un)[i]? = some x → x = .un ∨ ∃ d2, x = .val d2 ∧ ds[i]? = some d2 := fun {i x} q => by
    by_cases hi : i < ds.length
    · rw [List.getElem?_append_left (by simpa using hi), List.getElem?_map] at q
      cases z : ds[i]? with
      | none => rw [z] at q; cases q
      | some d2 => rw [z] at q; cases q; exact .inr ⟨d2, rfl, rfl⟩
    · rw [List.getElem?_append_right (by simpa using hi), List.getElem?_replicate] at q
      split at q
      · cases q; exact .inl rfl
      · cases q
  refine ⟨fun _ _ _ e => e, fun a h => by simp at h, fun b h => al b (by simpa using h), fun a h => by simp at h, fun b h => by
    have : b = a := by simpa using h
    rw [this]; exact ha, ⟨fun i d' q => ?_, fun i d' q => ?_, fun i d' q => ?_, fun i j d1 d2 b q1 q2 => ?_, fun i j d1 d2 q1 q2 => ?_, ?_⟩⟩
  · cases i with
    | zero => cases q
    | succ i =>
      rw [List.getElem?_cons_succ] at q
      rcases tl q with z | ⟨d2, z, z2⟩
      · cases z
      · cases z
        obtain ⟨v, h1, h2⟩ := r.get i z2
        refine ⟨v, ?_, h2⟩
        have hi := (List.getElem?_eq_some_iff.mp h1).1
        rw [st, List.getElem?_cons_succ, List.getElem?_append_left (by rw [List.length_map]; exact hi), List.getElem?_map, h1]
        rfl
  · cases i with
    | zero => cases q
    | succ i =>
      rw [List.getElem?_cons_succ] at q
      rcases tl q with z | ⟨d2, z, z2⟩ <;> cases z
  · cases i with
    | zero =>
      cases q
      exact ⟨by rw [st]; rfl, by simp, ho⟩
    | succ i =>
      rw [List.getElem?_cons_succ] at q
      rcases tl q with z | ⟨d2, z, z2⟩ <;> cases z
  · cases i with
    | zero => cases q1
    | succ i =>
      rw [List.getElem?_cons_succ] at q1
      rcases tl q1 with z | ⟨d2, z, z2⟩ <;> cases z
  · cases i with
    | zero =>
      cases j with
      | zero => rfl
      | succ j =>
        rw [List.getElem?_cons_succ] at q2
        rcases tl q2 with z | ⟨d2, z, z2⟩ <;> cases z
    | succ i =>
      rw [List.getElem?_cons_succ] at q1
      rcases tl q1 with z | ⟨d2, z, z2⟩ <;> cases z
  · rw [st, List.length_cons, List.length_cons, List.length_append, List.length_append, List.length_map, List.length_map, List.length_replicate, List.length_replicate, e]
theorem walkI {N : List Str} {X : Cx} {body : List Stmt} {ts : List Nat} {F : S → M Out} {Q : VK} (hN : n ≤ N.length) (hb : PSs X body (TSof K cl ts F)) (h : spI K cl n (runI N.length F) vs H Q E0) : ∃ t, PSs X body t ∧ t { nx := fun _ H' => Q .non H', rt := Q } (start N vs) H := by
  refine ⟨_, hb, ?_⟩
  obtain ⟨hn, O, a, d, ws, ds, e0, al, ha, ho, r, h⟩ := h
  refine ⟨_, [], _, wl_startI N (by omega) e0 al ha ho r, ?_⟩
  have fin : ∀ {L' s σ' H' d'}, Wl K cl ⟨O, [a], a, H⟩ L' s σ' H' → s[0]? = some (.io d') → OwnAt K cl O H' a d' := fun {L' s σ' H' d'} W e => (W.st.io 0 d' e).2.2.move rfl (hide_sub fun x hx => List.mem_append_right _ hx)
  have kp : ∀ {L' H'}, Step ⟨O, [a], a, H⟩ [] H L' H' → ∀ b o, b ≠ a → H b = some o → H' b = some o := fun st b o n e => st.keep b o (by simp) (by simpa using n) e
  unfold runI at h
  match (F (.io d :: (ds.map Sl.val ++ List.replicate (N.length - (ds.length + 1)) Sl.un)) : M Out), h with
  | none, h => exact h.elim
  | some (.ex _), h => exact h.elim
  | some (.ok (.nx s)), h =>
    intro L' σ' H' st W _
    dsimp only [bd] at h
    split at h
    · next r d' q =>
      split at q
      · next d2 e => cases q; exact h .non H' (kp st) (fin W e) .non
      · cases q
    · exact h.elim
  | some (.ok (.rt rd s)), h =>
    intro L' σ' H' v st W rr
    dsimp only [bd] at h
    split at h
    · next r d' q =>
      split at q
      · next d2 e => cases q; exact h v H' (kp st) (fin W e) rr
      · cases q
    · exact h.elim
end
end Dt
namespace Dt
open L2 PySem PySem.Spec PyProof.Rows
/-! ### calls of the text's own defs -/
def dCallU (n : Nat) (g : FnD) (dd : List D) (fr : S → M (List D × S)) : S → M (D × S) := fun s => bd (fr s) fun p => if (p.1 ++ dd).length = n then bd (g (p.1 ++ dd)) fun r => ok (r, p.2) else none
def dCallK (n a b : Nat) (g : FnD) (gD : List D → List D → List D) (fr fk : S → M (List D × S)) : S → M (D × S) := fun s => bd (fr s) fun p => bd (fk p.2) fun q =>
  if p.1.length = a ∧ q.1.length = b ∧ (gD p.1 q.1).length = n then bd (g (gD p.1 q.1)) fun r => ok (r, q.2) else none
def dCallI (i n : Nat) (g : D → List D → M (D × D)) (fr : S → M (List D × S)) : S → M (D × S) := fun s => match ownD s[i]? with
  | some _ => bd (fr s) fun p => match ownD p.2[i]? with
    | some d => if p.1.length + 1 = n then bd (g d p.1) fun q => ok (q.1, putD p.2 i q.2) else none
    | none => none
  | none => none
section
variable {X : Cx} {CX : CXT} {k n m : Nat} {f : Addr} {fd : FuncData} {ps ks : List Str} {dvs : List V} {ds : List Value} {dd : List D} {x : Str} {p pos : Pos} {e : Expr} {es : List Expr} {kws : List Keyword} {cl : Cl} {fr fk : S → M (List D × S)} {g : FnD} {gI : D → List D → M (D × D)}
  {gv : List Value → List Value → List Value} {gV : List V → List V → List V} {gD : List D → List D → List D}
theorem call_readP (hdd : ∀ H : Hp, RpA X.K cl H dvs dd) : ∀ σ H Q, TEof X.K cl (dCallU n g dd fr) σ H Q → tCall (spP X.K cl n g) dvs E0 (TAof X.K cl fr) σ H Q := by
  rintro σ H Q ⟨w, L, sd, W, h⟩
  refine ⟨w, L, sd, W, PostA.bd botE h fun rs s1 h vs H1 st1 W1 rrs => ?_⟩
  dsimp only at h
  split at h
  · next c =>
    have rr := rrs.append (hdd (hide (L ++ w.O0) H1))
    exact ⟨rr.len.trans c, L ++ w.O0, _, W1.alive, rr, h.fin st1 W1⟩
  · exact h.elim
theorem d_call (F : FnG X.prog X.w X.K X.mg X.base CX0 k f fd ps (spP X.K cl n g)) (hgd : X.A.guards = some []) (hr : Room k X.A) (hm : X.mg x = some (.ref f)) (hk : PySem.W.keepIn X.K (.ref f) = true) (hb : Binds X.K fd ps ds) (hd : Vals dvs ds) (hdd : ∀ H : Hp, RpA X.K cl H dvs dd)
    (ha : PA X (e :: es) (TAof X.K cl fr)) (hg : Gl X x := by rfl) (hdb : (x == ("__debug__" : Str)) = false := by decide) (hs : starEach (e :: es) X.env = (false, eval e X.env) :: starEach es X.env := by rfl)
    (hpl : (backTo pos (starEach es X.env)).any (·.1) = false := by rfl) : PE X (.Call (.Name x p) (e :: es) [] pos) (TEof X.K cl (dCallU n g dd fr)) :=
  iE (pe_callG F hgd hr hm hk hb hd pass0 ha hg hdb hs hpl) (call_readP hdd)
theorem d_call0 (F : FnG X.prog X.w X.K X.mg X.base CX0 k f fd ps (spP X.K cl n g)) (hgd : X.A.guards = some []) (hr : Room k X.A) (hm : X.mg x = some (.ref f)) (hk : PySem.W.keepIn X.K (.ref f) = true) (hb : Binds X.K fd ps ds) (hd : Vals dvs ds) (hdd : ∀ H : Hp, RpA X.K cl H dvs dd)
    (hg : Gl X x := by rfl) (hdb : (x == ("__debug__" : Str)) = false := by decide) : PE X (.Call (.Name x p) [] [] pos) (TEof X.K cl (dCallU n g dd aNil)) := by
  refine iE (pe_callG0 F hgd hr hm hk hb hd pass0 hg hdb) fun σ H Q h => ?_
  obtain ⟨w, L, sd, W, h⟩ := h
  unfold dCallU at h
  have h : PostE X.K cl w L σ H Q (if dd.length = n then bd (g dd) fun r => ok (r, sd) else none) := h
  split at h
  · next c => exact ⟨(hdd H).len.trans c, L ++ w.O0, dd, W.alive, hdd _, h.fin .refl W⟩
  · exact h.elim
theorem call_readK (hgV : ∀ (H : Hp) vs zs as bs, RpA X.K cl H vs as → RpA X.K cl H zs bs → RpA X.K cl H (gV vs zs) (gD as bs)) {a b : Nat} : ∀ σ H Q, TEof X.K cl (dCallK n a b g gD fr fk) σ H Q → tCallN a b (spP X.K cl n g) gV E0 (TAof X.K cl fr) (TAof X.K cl fk) σ H Q := by
  rintro σ H Q ⟨w, L, sd, W, h⟩
  refine ⟨w, L, sd, W, PostA.bd botE h fun rs s1 h vs H1 st1 W1 rrs => ?_⟩
  refine ⟨w, L, s1, W1, PostA.bd botE h fun qs s2 h zs H2 st2 W2 rqs => ?_⟩
  dsimp only at h
  split at h
  · next c =>
    have r1 := rrs.mono (st2.sn W2)
    have rr := hgV _ _ _ _ _ r1 rqs
    exact ⟨r1.len.trans c.1, rqs.len.trans c.2.1, rr.len.trans c.2.2, L ++ w.O0, _, W2.alive, rr, h.fin (st1.trans st2) W2⟩
  · exact h.elim
theorem d_callK (F : FnG X.prog X.w X.K X.mg X.base CX0 k f fd ps (spP X.K cl n g)) (hgd : X.A.guards = some []) (hr : Room k X.A) (hm : X.mg x = some (.ref f)) (hk : PySem.W.keepIn X.K (.ref f) = true) (hb : KBn X.K fd ps m ks gv gV)
    (hgV : ∀ (H : Hp) vs zs as bs, RpA X.K cl H vs as → RpA X.K cl H zs bs → RpA X.K cl H (gV vs zs) (gD as bs)) (ha : PA X (e :: es) (TAof X.K cl fr)) (hkw : PK X kws (TAof X.K cl fk)) (hg : Gl X x := by rfl)
    (hall : (backToKw pos (keywordEach kws X.env)).all (·.1.isSome) = true := by rfl) (hks : (backToKw pos (keywordEach kws X.env)).filterMap (·.1) = ks := by rfl)
    (hdb : (x == ("__debug__" : Str)) = false := by decide) (hs : starEach (e :: es) X.env = (false, eval e X.env) :: starEach es X.env := by rfl)
    (hpl : ((backTo pos
          (starEach (e :: es) X.env)).any (·.1) || (backToKw pos (keywordEach kws X.env)).any (·.1.isNone)) = false := by rfl) :
    PE X (.Call (.Name x p) (e :: es) kws pos) (TEof X.K cl (dCallK n m ks.length g gD fr fk)) :=
  iE (pe_callKG F hgd hr hm hk hb pass0 ha hkw hg hall hks hdb hs hpl) (call_readK hgV)
/-- f(k = v, ..) -/
theorem d_callK0 (F : FnG X.prog X.w X.K X.mg X.base CX0 k f fd ps (spP X.K cl n g)) (hgd : X.A.guards = some []) (hr : Room k X.A) (hm : X.mg x = some (.ref f)) (hk : PySem.W.keepIn X.K (.ref f) = true) (hb : KBn X.K fd ps 0 ks gv gV)
    (hgV : ∀ (H : Hp) vs zs as bs, RpA X.K cl H vs as → RpA X.K cl H zs bs → RpA X.K cl H (gV vs zs) (gD as bs)) (hkw : PK X kws (TAof X.K cl fk)) (hg : Gl X x := by rfl)
    (hall : (backToKw pos (keywordEach kws X.env)).all (·.1.isSome) = true := by rfl) (hks : (backToKw pos (keywordEach kws X.env)).filterMap (·.1) = ks := by rfl)
    (hdb : (x == ("__debug__" : Str)) = false := by decide)
    (hpl : ((backTo pos
          (starEach [] X.env)).any (·.1) || (backToKw pos (keywordEach kws X.env)).any (·.1.isNone)) = false := by rfl) :
    PE X (.Call (.Name x p) [] kws pos) (TEof X.K cl (dCallK n 0 ks.length g gD aNil fk)) := by
  constructor
  intro pins s σ H Q I h
  obtain ⟨w, L, sd, W, h⟩ := h
  unfold dCallK at h
  have h : PostE X.K cl w L σ H Q (bd (fk sd) fun q => if ([] : List D).length = 0 ∧ q.1.length = ks.length ∧ (gD [] q.1).length = n then bd (g (gD [] q.1)) fun r => ok (r, q.2) else none) := h
  refine wpAny_Call_Name_kw (ld_glob I hg hm (PySem.W.callWith_KW0 (h₀ := X.base) I.ok.mod.kin hk hall (thn (hkw.run pos pins s σ H (fun zs H2 => zs.length = ks.length ∧ spP X.K cl n g (gV [] zs) H2 Q E0) I ?_) ?_) hpl) hdb)
  · refine ⟨w, L, sd, W, PostA.bd botE h fun qs s2 h zs H2 st2 W2 rqs => ?_⟩
    dsimp only at h
    split at h
    · next c =>
      have rr := hgV (hide (L ++ w.O0) H2) [] zs [] qs .nil rqs
      exact ⟨rqs.len.trans c.2.1, rr.len.trans c.2.2, L ++ w.O0, _, W2.alive, rr, h.fin st2 W2⟩
    · exact h.elim
  · rintro ws s2 ⟨zs, H2, I2, rz, l2, q2⟩
    rw [hks]
    have r2 := hb.rel (vs := []) (us := []) .nil rz
    exact ⟨I2.kIn, ran pass0 I2 (F.go X.A X.stack s2 H2 ⟨[], ks.zip ws⟩ (gv [] ws) (gV [] zs) Q E0 hgd hr I2.env0 (hb.to s2 [] ws I2.kIn rfl (rz.length.symm.trans l2)) r2 q2)⟩
theorem k_nil {K : PySem.W.Frag} : PK X [] (TAof K cl aNil) := iK pk_nil nil_read
theorem k_cons {K : PySem.W.Frag} {nm : Option Str} {kpos : Pos} {fa : S → M (D × S)} (ha : PE X e (TEof K cl fa)) (hr : PK X kws (TAof K cl fr)) : PK X (⟨nm, e, kpos⟩ :: kws) (TAof K cl (aCons fa fr)) := iK (pk_cons ha hr) cons_read
/-- a call that makes a list -/
theorem f_call (F : FnG X.prog X.w X.K X.mg X.base CX0 k f fd ps (spF X.K cl n g)) (hgd : X.A.guards = some []) (hr : Room k X.A) (hm : X.mg x = some (.ref f)) (hk : PySem.W.keepIn X.K (.ref f) = true) (hb : Binds X.K fd ps ds) (hd : Vals dvs ds) (hdd : ∀ H : Hp, RpA X.K cl H dvs dd)
    (ha : PA X (e :: es) (TAof X.K cl fr)) (hg : Gl X x := by rfl) (hdb : (x == ("__debug__" : Str)) = false := by decide) (hs : starEach (e :: es) X.env = (false, eval e X.env) :: starEach es X.env := by rfl)
    (hpl : (backTo pos (starEach es X.env)).any (·.1) = false := by rfl) : PE X (.Call (.Name x p) (e :: es) [] pos) (TFof X.K cl (dCallU n g dd fr)) := by
  refine iE (pe_callG F hgd hr hm hk hb hd pass0 ha hg hdb hs hpl) ?_
  rintro σ H Q ⟨w, L, sd, W, h⟩
  refine ⟨w, L, sd, W, PostA.bd botF h fun rs s1 h vs H1 st1 W1 rrs => ?_⟩
  dsimp only at h
  split at h
  · next c =>
    have rr := rrs.append (hdd (hide (L ++ w.O0) H1))
    refine ⟨rr.len.trans c, L ++ w.O0, _, W1.alive, rr, ?_⟩
    generalize g (rs ++ dd) = mm at h
    match mm, h with
    | none, h => exact h.elim
    | some (.ex _), h => exact h.elim
    | some (.ok r), h =>
      intro p H' sm np ho
      have st2 : Step w L H1 (p :: L) H' := ⟨fun b o _ _ e => sm b o e, (Step.of_same (w := w) (L := L) sm).alv, fun a ha => by
        (rcases List.mem_cons.mp ha with rfl | ha)
        · exact .inr np
        · exact .inl ha⟩
      exact h p H' (st1.trans st2) (W1.new_ne np) (W1.ext sm) (W1.made sm np ho.some) ho
  · exact h.elim
/-- a call that changes its first argument, an own list -/
theorem d_callI (i : Nat) {y : Str} {py : Pos} (F : FnG X.prog X.w X.K X.mg X.base CX0 k f fd ps (spI X.K cl n gI)) (hgd : X.A.guards = some []) (hr : Room k X.A) (hm : X.mg x = some (.ref f)) (hk : PySem.W.keepIn X.K (.ref f) = true) (hb : Binds X.K fd ps [])
    (ha : PA X es (TAof X.K cl fr)) (hN : X.N[i]? = some y := by rfl) (hv : Vis X.env.scope y := by first | exact Or.inl rfl | exact Or.inr (Or.inl rfl) | exact Or.inr (Or.inr rfl))
    (hyd : (y == ("__debug__" : Str)) = false := by decide) (hcd : (y == ("__classdict__" : Str)) = false := by decide) (hg : Gl X x := by rfl) (hdb : (x == ("__debug__" : Str)) = false := by decide)
    (hs : starEach (.Name y py :: es) X.env = (false, eval (.Name y py) X.env) :: starEach es X.env := by rfl)
    (hpl : (backTo pos (starEach es X.env)).any (·.1) = false := by rfl) : PE X (.Call (.Name x p) (.Name y py :: es) [] pos) (TEof X.K cl (dCallI i n gI fr)) := by
  refine iE (pe_callG F hgd hr hm hk hb .nil pass0 (pa_cons (pe_var hN hv hyd hcd) ha hs) hg hdb hs hpl) ?_
  rintro σ H Q ⟨w, L, sd, W, h⟩
  unfold dCallI at h
  split at h
  · next d0 e0 =>
    obtain ⟨a, q1, q2, q3⟩ := W.atD e0
    refine ⟨.ref a, q1, w, L, sd, W, PostA.bd botE h fun rs s1 h vs H1 st1 W1 rrs => ?_⟩
    dsimp only at h
    split at h
    · next d e1 =>
      obtain ⟨a', p1, p2, p3⟩ := W1.atD e1
      rw [q1] at p1
      cases p1
      split at h
      · next c =>
        have hin : a ∈ L ++ w.O0 := by
          rcases p2 with z | z
          · (exact List.mem_append_left _ z)
          · exact List.mem_append_right _ (W1.sub a z.2)
        refine ⟨?_, L ++ w.O0, a, d, vs, rs, ?_, W1.alive, hin, p3, rrs, ?_⟩
        · rw [List.append_nil, List.length_cons, rrs.len]; exact c
        · rw [List.append_nil]
        · generalize gI d rs = mm at h
          match mm, h with
          | none, h => exact h.elim
          | some (.ex _), h => exact h.elim
          | some (.ok (r, d')), h =>
            intro v H' kp ho rv
            obtain ⟨W2, st2⟩ := W1.wrote e1 q1 p2 p3.some kp ho
            exact h v H' (st1.trans st2) W2 rv
      · exact h.elim
    · exact h.elim
  · exact h.elim
end
end Dt
namespace Dt
open L2 PySem PySem.Spec PyProof.Rows
/-! ### items and slices -/
def ixL : Op2 := fun d e => match d, e with
  | .lst ds, .int k => match atI ds k with
    | some r => ok r
    | none => none
  | _, _ => none
def ixT : Op2 := fun d e => match d, e with
  | .tup ds, .int k => match atI ds k with
    | some r => ok r
    | none => none
  | _, _ => none
def cutD (xs : List D) (lo hi : Option Int) : List D := (xs.drop (HT.sIx xs.length 0 lo)).take (HT.sIx xs.length xs.length hi - HT.sIx xs.length 0 lo)
def partNo : S → M (Option Int × S) := fun s => ok (none, s)
def partAt (f : S → M (D × S)) : S → M (Option Int × S) := fun s => bd (f s) fun p => match p.1 with
  | .int i => ok (some i, p.2)
  | _ => none
def dCutL (f : S → M (D × S)) (fl fh : S → M (Option Int × S)) : S → M (D × S) := fun s => bd (f s) fun p => match p.1 with
  | .lst xs => bd (fl p.2) fun q => bd (fh q.2) fun r => ok (.lst (cutD xs q.1 r.1), r.2)
  | _ => none
def dCutT (f : S → M (D × S)) (fl fh : S → M (Option Int × S)) : S → M (D × S) := fun s => bd (f s) fun p => match p.1 with
  | .tup xs => bd (fl p.2) fun q => bd (fh q.2) fun r => ok (.tup (cutD xs q.1 r.1), r.2)
  | _ => none
def dRev (f : S → M (D × S)) : S → M (D × S) := fun s => bd (f s) fun p => match p.1 with
  | .lst xs => ok (.lst xs.reverse, p.2)
  | _ => none
def catL : Op2 := fun d e => match d, e with
  | .lst xs, .lst ys => if xs.length + ys.length ≤ sizeLine then ok (.lst (xs ++ ys)) else none
  | _, _ => none
def catT : Op2 := fun d e => match d, e with
  | .tup xs, .tup ys => if xs.length + ys.length ≤ sizeLine then ok (.tup (xs ++ ys)) else none
  | _, _ => none
def PostO (K : PySem.W.Frag) (cl : Cl) (w : Wf) (L : List Addr) (σ : L2.St) (H : Hp) (Q : Option Int → Hp → Prop) : M (Option Int × S) → Prop
  | some (.ok (o, s')) => ∀ H', Step w L H L H' → Wl K cl w L s' σ H' → Q o H'
  | _ => False
def TOof (K : PySem.W.Frag) (cl : Cl) (f : S → M (Option Int × S)) : TO := fun σ H Q => ∃ w L sd, Wl K cl w L sd σ H ∧ PostO K cl w L σ H Q (f sd)
section
variable {X : Cx} {K : PySem.W.Frag} {cl : Cl} {pos p2 : Pos} {a b e : Expr} {lo hi : Option Expr} {fa fb f : S → M (D × S)} {fl fh : S → M (Option Int × S)} {g : Op2}
theorem rp_at {H : Hp} {xs : List V} {ds : List D} {k : Int} {d : D} (r : RpA K cl H xs ds) (h : atI ds k = some d) : ∃ v, atI xs k = some v ∧ Rp K cl H v d := by
  unfold atI at h ⊢
  rw [r.len]
  cases q : ixN ds.length k with
  | none => rw [q] at h; cases h
  | some j =>
    rw [q] at h
    obtain ⟨v, h1, h2⟩ := r.get j h
    exact ⟨v, h1, h2⟩
theorem d_ixL (ha : PE X a (TEof X.K cl fa)) (hb : PE X b (TEof X.K cl fb)) (hp : PlainIx b := by exact fun _ _ => rfl) : PE X (.Subscript a b pos) (TEof X.K cl (dBin ixL fa fb)) := by
  refine iE (pe_ix ix_list ha hb hp) (bin_read fun O H x y d e Q al rx ry h => ?_)
  unfold ixL at h
  split at h
  · next ds k =>
    cases ry
    cases rx with
    | lst s r =>
      split at h
      · next d e =>
        obtain ⟨v, h1, h2⟩ := rp_at r e
        exact ⟨_, _, _, v, rfl, rfl, hide_le.seq s, h1, h.now h2⟩
      · exact h.elim
  · exact h.elim
theorem d_ixT (ha : PE X a (TEof X.K cl fa)) (hb : PE X b (TEof X.K cl fb)) (hp : PlainIx b := by exact fun _ _ => rfl) : PE X (.Subscript a b pos) (TEof X.K cl (dBin ixT fa fb)) := by
  refine iE (pe_ix ix_tup ha hb hp) (bin_read fun O H x y d e Q al rx ry h => ?_)
  unfold ixT at h
  split at h
  · next ds k =>
    cases ry
    cases rx with
    | tup s r =>
      split at h
      · next d e =>
        obtain ⟨v, h1, h2⟩ := rp_at r e
        exact ⟨_, _, _, v, rfl, rfl, same_sqT hide_le s, h1, h.now h2⟩
      · exact h.elim
  · exact h.elim
theorem iO {t t' : TO} {e : Option Expr} (h : PO X e t) (k : ∀ σ H Q, t' σ H Q → t σ H Q) : PO X e t' := ⟨fun pins s σ H Q I q => h.run pins s σ H Q I (k σ H Q q)⟩
theorem o_none : PO X none (TOof K cl partNo) := by
  refine iO po_none ?_
  rintro σ H Q ⟨w, L, sd, W, h⟩
  exact h H .refl W
theorem o_some (he : PE X e (TEof K cl f)) : PO X (some e) (TOof K cl (partAt f)) := by
  refine iO (po_some he) ?_
  rintro σ H Q ⟨w, L, sd, W, h⟩
  refine ⟨w, L, sd, W, PostE.bd (P := PostO K cl w L σ H Q) ⟨fun h => h, fun _ h => h⟩ h fun r s1 h v H1 st1 W1 rr => ?_⟩
  cases r with
  | int i => cases rr; exact ⟨i, rfl, h H1 st1 W1⟩
  | _ => exact h.elim
theorem cut_rp {H : Hp} {xs : List V} {ds : List D} (r : RpA K cl H xs ds) (l u : Option Int) : RpA K cl H (cutV xs l u) (cutD ds l u) := by
  unfold cutV cutD
  rw [r.len]
  exact (r.drop _).take _
theorem PostO.bd {w : Wf} {L : List Addr} {σ : L2.St} {H : Hp} {m : M (Option Int × S)} {β : Type} {P : M β → Prop} (hb : Bot P) {f : Option Int × S → M β} (h : P (bd m f)) {C : Option Int → Hp → Prop}
    (k : ∀ r s1, P (f (r, s1)) → ∀ H1, Step w L H L H1 → Wl K cl w L s1 σ H1 → C r H1) : PostO K cl w L σ H C m := by
  match m, h with
  | none, h => exact (hb.no h).elim
  | some (.ex e), h => exact (hb.ex e h).elim
  | some (.ok (r, s1)), h => exact fun H1 a b => k r s1 h H1 a b
/-- xs[lo:hi], a new list -/
theorem f_cutL (ha : PE X a (TEof X.K cl fa)) (hl : PO X lo (TOof X.K cl fl)) (hh : PO X hi (TOof X.K cl fh)) : PE X (.Subscript a (.Slice lo hi none p2) pos) (TFof X.K cl (dCutL fa fl fh)) := by
  refine iE (pe_slice sl_list ha hl hh) ?_
  rintro σ H Q ⟨w, L, sd, W, h⟩
  refine ⟨w, L, sd, W, PostE.bd botF h fun r s1 h v H1 st1 W1 rr => ?_⟩
  cases rr with
  | @lst ad xs ds s r =>
    dsimp only at h
    refine ⟨w, L, s1, W1, PostO.bd botF h fun q s2 h H2 st2 W2 => ?_⟩
    refine ⟨w, L, s2, W2, PostO.bd botF h fun u s3 h H3 st3 W3 => ?_⟩
    have sm := (st2.trans st3).sn W1
    refine ⟨_, _, rfl, hide_le.seq (sm.seq s), fun p np => ?_⟩
    have sm2 := same_upd (o := .lst (cutV xs q u)) np
    have st4 : Step w L H3 (p :: L) _ := ⟨(Step.of_same (w := w) (L := L) sm2).keep, (Step.of_same (w := w) (L := L) sm2).alv, fun a ha => by
      (rcases List.mem_cons.mp ha with rfl | ha)
      · exact .inr np
      · exact .inl ha⟩
    exact h p _ (((st1.trans st2).trans st3).trans st4) (W3.new_ne np) (W3.ext sm2) (W3.made sm2 np (by rw [upd_same]; simp)) ⟨_, upd_same, ((cut_rp r q u).mono sm).mono (st4.seen W.sub)⟩
  | _ => exact h.elim
theorem d_cutT (ha : PE X a (TEof X.K cl fa)) (hl : PO X lo (TOof X.K cl fl)) (hh : PO X hi (TOof X.K cl fh)) : PE X (.Subscript a (.Slice lo hi none p2) pos) (TEof X.K cl (dCutT fa fl fh)) := by
  refine iE (pe_slice sl_tupA ha hl hh) ?_
  rintro σ H Q ⟨w, L, sd, W, h⟩
  refine ⟨w, L, sd, W, PostE.bd botE h fun r s1 h v H1 st1 W1 rr => ?_⟩
  cases rr with
  | @tup ad xs ds s r =>
    dsimp only at h
    refine ⟨w, L, s1, W1, PostO.bd botE h fun q s2 h H2 st2 W2 => ?_⟩
    refine ⟨w, L, s2, W2, PostO.bd botE h fun u s3 h H3 st3 W3 => ?_⟩
    have sm := (st2.trans st3).sn W1
    have st13 := (st1.trans st2).trans st3
    have s3' := same_sqT sm s
    have r3 := r.mono sm
    refine ⟨_, _, rfl, same_sqT hide_le s3', fun hw => ?_, fun _ p np => ?_⟩
    · have e : cutD ds q u = ds := by
        unfold cutD
        rw [← r.len, hw.1, hw.2, List.drop_zero, Nat.sub_zero]
        exact List.take_of_length_le (by rw [r.len]; exact Nat.le_refl _)
      refine h _ H3 st13 W3 ?_
      rw [e]
      exact .tup s3' r3
    · have sm2 := same_upd (o := .tup (cutV xs q u)) np
      have st4 : Step w L H3 L _ := .of_same sm2
      exact h _ _ (st13.trans st4) (W3.ext sm2) (.tup (.inl (.inl (hide_new W3.alive np))) ((cut_rp r3 q u).mono (st4.sn W3)))
  | _ => exact h.elim
/-- xs[::-1], a new list -/
theorem f_rev {k : Nat} {q1 q2 q3 : Pos} (ha : PE X a (TEof X.K cl fa)) : PE X (.Subscript a (.Slice none none (some (.UnaryOp .USub (.Constant (.int 1) k q1) q2)) q3) pos) (TFof X.K cl (dRev fa)) := by
  refine iE (pe_revL ha) ?_
  rintro σ H Q ⟨w, L, sd, W, h⟩
  refine ⟨w, L, sd, W, PostE.bd botF h fun r s1 h v H1 st1 W1 rr => ?_⟩
  cases rr with
  | @lst ad xs ds s r =>
    refine ⟨_, _, rfl, hide_le.seq s, fun p np => ?_⟩
    have sm2 := same_upd (o := .lst xs.reverse) np
    have st4 : Step w L H1 (p :: L) _ := ⟨(Step.of_same (w := w) (L := L) sm2).keep, (Step.of_same (w := w) (L := L) sm2).alv, fun a ha => by
      (rcases List.mem_cons.mp ha with rfl | ha)
      · exact .inr np
      · exact .inl ha⟩
    exact h p _ (st1.trans st4) (W1.new_ne np) (W1.ext sm2) (W1.made sm2 np (by rw [upd_same]; simp)) ⟨_, upd_same, r.rev.mono (st4.seen W1.sub)⟩
  | _ => exact h.elim
/-- + of any two lists -/
def rCatL (K : PySem.W.Frag) : R2 := fun x y H Q => ∃ l b xs zs, x = .ref l ∧ y = .ref b ∧ SqL K H l xs ∧ SqL K H b zs ∧ xs.length + zs.length ≤ sizeLine ∧ ∀ p, H p = none → Q (.ref p) (upd H p (.lst (xs ++ zs)))
theorem o_catL : OpR X (binaryOp .Add) (rCatL X.K) := by
  (intro pins s σ H x y v u Q I rx ry h)
  obtain ⟨l, b, xs, zs, rfl, rfl, h1, h2, hz, q⟩ := h
  cases rx
  cases ry
  obtain ⟨its, r1, ⟨⟨c1, dd1, data1, sl1⟩, n1, e1, hc1, hd1, ht1⟩, z1⟩ := I.list h1
  obtain ⟨its2, r2, ⟨⟨c2, dd2, data2, sl2⟩, n2, e2, hc2, hd2, ht2⟩, z2⟩ := I.list h2
  simp only at hc1 hd1 ht1 hc2 hd2 ht2
  subst hc1 hd1 ht1 hc2 hd2 ht2
  have l1 := r1.length
  have l2 := r2.length
  refine concat_meets ⟨_, e1, rfl⟩ ⟨_, e2, rfl⟩ noFill_list_add seq_list_add PySem.F.slot_list_add PySem.F.entry_list_add
    (PySem.F.args_list_add_2 _ _) (list_addW l b its.toArray its2.toArray n1 n2 none none sl1 sl2 (by rw [List.size_toArray, List.size_toArray]; omega)) ⟨e1, e2, ?_⟩
  (have ea : its.toArray ++ its2.toArray = (its ++ its2).toArray := by simp)
  rw [ea]
  refine ⟨.ref _, _, I.laid (t' := s.toks) (o := .lst (xs ++ zs)) (fun _ _ z => Heap.get?_push_of_some _ z) (Nat.le_refl _) ⟨by rw [List.length_append]; exact hz, _, 0, r1.append r2, Heap.get?_push_size _ rfl⟩, rfl, q _ (I.hok.fresh (Nat.le_refl _))⟩
theorem k_catL : OpK X X.K cl (binaryOp .Add) catL := by
  refine ⟨_, o_catL, fun O H x y d e Q al rx ry h => ?_⟩
  unfold catL at h
  split at h
  · next xs ys =>
    split at h
    · next c =>
      cases rx with
      | lst s r =>
        cases ry with
        | lst s2 r2 => exact ⟨_, _, _, _, rfl, rfl, hide_le.seq s, hide_le.seq s2, by rw [r.len, r2.len]; exact c, fun p np => h.new np (.lst (.inl (.inl (hide_new al np))) ((r.mono (hide_upd np)).append (r2.mono (hide_upd np))))⟩
    · exact h.elim
  · exact h.elim
theorem k_catT : OpK X X.K cl (binaryOp .Add) catT := by
  refine ⟨_, op_catA, fun O H x y d e Q al rx ry h => ?_⟩
  unfold catT at h
  split at h
  · next xs ys =>
    split at h
    · next c =>
      cases rx with
      | @tup a1 us _ s r =>
        cases ry with
        | @tup a2 ws _ s2 r2 =>
          refine ⟨_, _, _, _, rfl, rfl, same_sqT hide_le s, same_sqT hide_le s2, by rw [r.len, r2.len]; exact c, fun z => ?_, fun _ z => ?_, fun _ _ p np => h.new np (.tup (.inl (.inl (hide_new al np))) ((r.mono (hide_upd np)).append (r2.mono (hide_upd np))))⟩
          · subst z
            cases r
            exact h.now (.tup s2 r2)
          · subst z
            cases r2
            rw [List.append_nil] at h
            exact h.now (.tup s r)
    · exact h.elim
  · exact h.elim
/-! ### a list times an int, the list just made -/
def dRep (fa fb : S → M (D × S)) : S → M (D × S) := fun s => bd (fa s) fun p => bd (fb p.2) fun q => match p.1, q.1 with
  | .lst xs, .int k => if -(2 ^ 63) ≤ k ∧ k < 2 ^ 63 ∧ xs.length * k.toNat ≤ sizeLine then ok (.lst (List.replicate k.toNat xs).flatten, q.2) else none
  | _, _ => none
theorem rp_rep {H : Hp} {xs : List V} {ds : List D} (r : RpA K cl H xs ds) : ∀ n : Nat, RpA K cl H (List.replicate n xs).flatten (List.replicate n ds).flatten
  | 0 => .nil
  | n + 1 => by
    (rw [List.replicate_succ, List.replicate_succ, List.flatten_cons, List.flatten_cons])
    exact r.append (rp_rep r n)
end
end Dt
namespace Dt
open L2 PySem PySem.Spec PyProof.Rows
/-! ### isinstance(e, T), T a built-in type -/
def tyD : D → Option String
  | .non => some "NoneType"
  | .bl _ => some "bool"
  | .int _ => some "int"
  | .str _ => some "str"
  | .lst _ => some "list"
  | .tup _ => some "tuple"
  | _ => none
def isD (T : String) (d : D) : M D := match tyD d with
  | some a => match kitB a T with
    | some b => ok (.bl b)
    | none => none
  | none => none
def dIsi (T : String) (f : S → M (D × S)) : S → M (D × S) := fun s => bd (f s) fun p => bd (isD T p.1) fun r => ok (r, p.2)
section
variable {X : Cx} {cl : Cl} {pos p0 p2 : Pos} {a b e : Expr} {f fa fb : S → M (D × S)}
theorem ty_of {K : PySem.W.Frag} {O : List Addr} {H : Hp} {v : V} {d : D} {n : String} (r : Rp K cl (hide O H) v d) (h : tyD d = some n) : TyX K H v (.type n) := by
  cases r with
  | non => cases h; exact .base .non
  | bl x => cases h; exact .base (.bl x)
  | int i => cases h; exact .base (.int i)
  | str x => cases h; exact .base (.str x)
  | lst q _ =>
    cases h
    rcases hide_le.seq q with (z | ⟨o, z⟩) | ⟨o, its, n, z, c, _⟩
    · exact .base (.lst z)
    · exact .base (.frz z)
    · exact .kList z c
  | tup q _ =>
    cases h
    rcases same_sqT hide_le q with (z | ⟨o, z⟩) | ⟨o, its, n, z, c, _⟩
    · exact .base (.tup z)
    · exact .fTuple z
    · exact .kTuple z c
  | obj => cases h
  | dic => cases h
theorem d_isi {x : Str} {T : String} (he : PE X e (TEof X.K cl f)) (hm : X.mg "isinstance" = none) (hT : X.mg x = none) (hv : bootBuiltins x = some (.type T)) (hb : bootBuiltins "isinstance" = some (.builtin "isinstance")) (hg : Gl X "isinstance" := by rfl) (hx : Gl X x := by rfl)
    (hn : x ≠ "__name__" := by decide) (hd : (x == ("__debug__" : Str)) = false := by decide) (h1 : starEach [e, .Name x p2] X.env = (false, eval e X.env) :: starEach [.Name x p2] X.env := by rfl) (h2 : starEach [.Name x p2] X.env = (false, eval (.Name x p2) X.env) :: starEach [] X.env := by rfl)
    (hpl : (backTo pos (starEach [.Name x p2] X.env)).any (·.1) = false := by rfl) : PE X (.Call (.Name "isinstance" p0) [e, .Name x p2] [] pos) (TEof X.K cl (dIsi T f)) := by
  refine iE (pe_callB call_isi hg hm hb (pa_cons he (pa_cons (pe_bltn hx hT hv (v := .ty T) rfl hn hd) pa_nil h2) h1) (by decide) (by decide) h1 hpl) ?_
  rintro σ H Q ⟨w, L, sd, W, h⟩
  refine ⟨w, L, sd, W, PostE.bd botE h fun r s1 h v H1 st1 W1 rr => ?_⟩
  have h' := h.fin st1 W1
  unfold isD at h'
  split at h'
  · next n e1 =>
    split at h'
    · next c e2 => exact ⟨v, .ty T, _, _, c, rfl, .ty T, ty_of rr e1, kit_ty e2, h'.now (.bl c)⟩
    · exact h'.elim
  · exact h'.elim
/-! ### [..] * k -/
theorem f_rep (ha : PE X a (TFof X.K cl fa)) (hb : PE X b (TEof X.K cl fb)) : PE X (.BinOp a .Mult b pos) (TFof X.K cl (dRep fa fb)) := by
  refine iE (pe_op op_rep ha hb) ?_
  rintro σ H Q ⟨w, L, sd, W, h⟩
  refine ⟨w, L, sd, W, PostF.bd botF h fun r s1 h p H1 st1 np W1 W1' o1 => ?_⟩
  refine ⟨w, L, s1, W1, PostE.bd botF h fun q s2 h v H2 st2 W2 rq => ?_⟩
  dsimp only at h
  cases r with
  | lst xs =>
    cases q with
    | int k =>
      dsimp only at h
      split at h
      · next c =>
        cases rq
        obtain ⟨vs, e1, r1⟩ := o1
        have np1 : p ∉ L := fun z => np (List.mem_append_left _ z)
        have np2 : p ∉ w.I := fun z => np (List.mem_append_right _ (W1.sub p z))
        have e2 := st2.keep p _ np1 np2 e1
        have r2 : RpA X.K cl (hide (L ++ w.O0) H2) vs xs := (r1.mono (hide_sub fun a ha => List.mem_cons_of_mem _ ha)).mono (st2.sn W2)
        refine ⟨p, k, vs, rfl, rfl, e2, c.1, c.2.1, by rw [r1.len]; exact c.2.2, fun z nz => ?_⟩
        have sm := same_upd (o := .lst (List.replicate k.toNat vs).flatten) nz
        have st3 : Step w L H2 (z :: L) _ := ⟨(Step.of_same (w := w) (L := L) sm).keep, (Step.of_same (w := w) (L := L) sm).alv, fun a ha => by
          (rcases List.mem_cons.mp ha with rfl | ha)
          · exact .inr nz
          · exact .inl ha⟩
        have st0 : Step w L H L H1 := ⟨st1.keep, st1.alv, fun _ h => .inl h⟩
        exact h z _ ((st0.trans st2).trans st3) (W2.new_ne nz) (W2.ext sm) (W2.made sm nz (by rw [upd_same]; simp)) ⟨_, upd_same, (rp_rep r2 _).mono (st3.seen W2.sub)⟩
      · exact h.elim
    | _ => exact h.elim
  | _ => exact h.elim
end
/-! ### keywords of a def without defaults -/
theorem kbN {K : PySem.W.Frag} {x qual : Str} {params : Arguments} {body : List Stmt} {scope : Scope} {f : Addr} {fd : FuncData} {ps : List Str} (F : FunD K x qual params body scope [] [] f fd) (n : Nat) (ks : List Str) (g : {α : Type} → List α → List α → List α)
    (hrel : ∀ {vs zs : List V} {us ws : List Value}, Vals vs us → Vals zs ws → Vals (g vs zs) (g us ws))
    (h : ∀ (kV doc pm : Value) (an : Option Addr) (cdv ct : Value) (us ws : List Value), us.length = n → ws.length = ks.length → bindArgs (PySem.W.fnOf x qual params body scope .none kV doc pm an cdv ct) ⟨us, ks.zip ws⟩ = pure (ps.zip (g us ws))) :
    KBn K fd ps n ks (fun us ws => g us ws) (fun vs zs => g vs zs) := by
  (obtain ⟨oc, od, dV, kV, doc, pm, an, cdv, ct, osl, rfl, lk, hcd, hD, hK⟩ := F.ex)
  (rcases hD with ⟨_, rfl⟩ | ⟨e, _⟩)
  · exact ⟨fun s us ws _ l1 l2 => .of_eq (h kV doc pm an cdv ct us ws l1 l2), fun a b => hrel a b⟩
  · exact absurd rfl e
/-! ### the law's end -/
theorem hide_nil {H : Hp} : hide [] H = H := by
  funext a
  unfold hide
  simp
theorem ints_rp {K : PySem.W.Frag} {cl : Cl} {H : Hp} : ∀ ns : List Int, RpA K cl H (ns.map V.int) (ns.map D.int)
  | [] => .nil
  | n :: ns => .cons (.int n) (ints_rp ns)
theorem sp_law {K : PySem.W.Frag} {cl : Cl} {g : FnD} {H : Hp} {a : Addr} {ns : List Int} {E : XK} (hs : SqL K H a (ns.map V.int)) (h : g [.lst (ns.map D.int)] = ok (.bl true)) : spP K cl 1 g [.ref a] H (fun v _ => v = .bl true) E := by
  refine ⟨rfl, [], [.lst (ns.map D.int)], fun a h => by simp at h, by rw [hide_nil]; exact .cons (.lst hs (ints_rp ns)) .nil, ?_⟩
  rw [h]
  intro v H' _ r
  cases r
  rfl
/-- a def's promise as the caller of the law asks it -/
theorem walk_G {l : PySem.W.OpenLaw} {n k : Nat} {q : Program} {loose : List Str} {XP : (Str → Option Value) → Heap → Prop} {YP : World → Heap → Prop} {d : DefRec} {x : Str}
    (hn : l.most = some n) (hn2
          : n ≤ sizeLine) (hdf : d.params.defaults = []) (hr : Room k callerA)
    (F : ∀ (w : World) (mg : Str
          → Option Value) (fa : Addr) (h : Heap), YP w h → h.Ns mainGlobals mg → mg d.name = some (.ref fa) →
      ∃ (K : PySem.W.Frag) (fd : FuncData) (cl : Cl) (g : FnD), K.In h ∧ (∀ (s : Shared) (u : Value), BindsTo s fd ⟨[u], []⟩ [(x, u)]) ∧ (∀ ns : List Int, ns.length ≤ n → g [.lst (ns.map D.int)] = ok (.bl true)) ∧
        ∀ base : Heap, K.In base → base.Ns mainGlobals mg → FnG l.prog w K mg base CX0 k fa fd [x] (spP K cl 1 g)) :
    PySem.W.WalkO q loose XP YP l.row.toRowW d []
          (fun f vs => PySem.call f vs) := by
  (refine Att.attach_call hn hdf fun w s₀ s₁ mg mb fa o pm cd doc a vs ns G Y ho hd hcd hmg hobj hints hlen hg => ?_)
  obtain ⟨K, fd, cl, g, KX, hb, hlaw, hF⟩ := F w mg fa _ Y G.T.g hmg
  have hl : ns.length ≤ sizeLine := Nat.le_trans hlen hn2
  have rv := vals_ints hints
  have lv := hints.length
  have main : ∀ H : Hp, Only H → SqL K H a (ns.map V.int) → HOk l.prog w H s₁.heap → (∀ b, H b ≠ none → b = a) → (H a ≠ none → K.lookup a = none) →
      codeAny (model l.prog w) callerA (.call (.ref fa) ⟨[.ref a], []⟩) (fun r s' => r = .ok (.ret (.bool true)) ∧ OldK s₁.heap s'.heap ∧ s'.os = s₁.os ∧ AllBare s'.gens) s₁ := by
    intro H hO hS hok hA hK
    have isA : ∀ {b : Addr} {u : HO}, H b = some u → b = a := fun {b u} e => hA b (by rw [e]; simp)
    have noD : ∀ {b : Addr} {ob : Obj} {es : Array DictEntry} {ep : Nat}, s₁.heap.get? b = some ob → ob.data = .dict es ep → H b = none := fun {b ob es ep} e1 e2 => by
      cases q : H b with
      | none => rfl
      | some u =>
        rw [isA q, hobj] at e1
        cases e1
        cases (show Data.seq vs.toArray _ = Data.dict es ep from e2)
    have nsB : ∀ {b : Addr} {m : Str → Option Value}, s₁.heap.Ns b m → (hidT s₁.heap H).Ns b m := fun {b m} ⟨ob, es, ep, e1, e2, r⟩ => ⟨ob, es, ep, hidT_get e1 (noD e1 e2), e2, r⟩
    have inB : K.In (hidT s₁.heap H) := fun b ob e => by
      refine hidT_get (KX b ob e) ?_
      cases q : H b with
      | none => rfl
      | some u =>
        have z := isA q
        subst z
        (rw [hK (by rw [q]; simp)] at e)
        cases e
    obtain ⟨mc, n1, n2⟩ := G.T.nolimit
    have env : Env0 l.prog w K mg (hidT s₁.heap H) callerA [] s₁ H := ⟨rfl, ⟨inB, nsB G.T.g, ⟨mb, nsB G.T.b, G.T.builtins⟩, ⟨mc, nsB n1, n2⟩⟩, fun b ob e => of_hidT e, Nat.le_of_eq (hidT_size _ _), trivial, fun b hb => absurd (show b ∈ ([] : List Addr) from hb) (by simp), hok, .of_eq hg⟩
    refine codeAny_mono ((hF _ inB (nsB G.T.g)).go callerA [] s₁ H ⟨[.ref a], []⟩ [.ref a] [.ref a] _ E0 rfl hr env (hb s₁ (.ref a)) (.cons rfl .nil) (sp_law hS (hlaw ns hlen))) fun r s' h => ?_
    match r, h with
    | .error e, h => exact False.elim h
    | .ok .next, h => exact False.elim h
    | .ok .brk, h => exact False.elim h
    | .ok .cont, h => exact False.elim h
    | .ok (.ret u), h =>
      obtain ⟨v, H', os, bare, un, hok', r', z⟩ := h
      cases (show v = .bl true from z)
      cases (show u = Value.bool true from r')
      refine ⟨rfl, OldK.of_keep fun b ob e => ?_, os, bare⟩
      cases q : H b with
      | none => exact un.keep b ob e q (fun z => absurd (show b ∈ ([] : List Addr) from z) (by simp)) (by simp)
      | some u =>
        rcases hO b with z | ⟨o2, xs, z⟩
        · rw [q] at z
          cases z
        · have g1 := (hok b _ z).1
          have g2 := (hok' b _ (un.frzs b o2 _ z)).1
          rw [e] at g1
          cases g1
          exact g2
  cases q : K.lookup a with
  | some ob =>
    have e := KX a ob q
    rw [hobj] at e
    cases e
    exact main (fun _ => none) (fun _ => .inl rfl) (.inr ⟨_, vs.toArray, _, q, rfl, rfl, rfl, by rw [List.size_toArray, lv]; exact hl, by simpa using rv⟩) (fun b u z => nomatch z) (fun b z => absurd rfl z) fun z => absurd rfl z
  | none =>
    have at_ : ∀ {b : Addr} {u : HO}, (if b = a then some (HO.frz { cls := .type "list", data := .seq vs.toArray } (.lst (ns.map V.int))) else none) = some u → b = a ∧ u = HO.frz { cls := .type "list", data := .seq vs.toArray } (.lst (ns.map V.int)) := fun {b u} z => by
      by_cases c : b = a
      · rw [if_pos c] at z
        exact ⟨c, (Option.some.inj z).symm⟩
      · rw [if_neg c] at z
        cases z
    refine main (fun b => if b = a then some (.frz { cls := .type "list", data := .seq vs.toArray } (.lst (ns.map V.int))) else none) (fun b => ?_) (.inl (.inr ⟨{ cls := .type "list", data := .seq vs.toArray }, if_pos rfl⟩)) (fun b u z => ?_) (fun b z => ?_) fun _ => q
    · by_cases c : b = a
      · exact .inr ⟨_, _, if_pos c⟩
      · exact .inl (if_neg c)
    · obtain ⟨rfl, rfl⟩ := at_ z
      exact ⟨hobj, by rw [List.length_map]; exact hl, vs, _, rv, hobj⟩
    · by_cases c : b = a
      · exact c
      · exact absurd (if_neg c) z
end Dt
namespace Dt
open L2 PySem PySem.Spec PyProof.Rows
section
variable {X : Cx} {K : PySem.W.Frag} {cl : Cl}
/-- x = [..] on one line -/
theorem s_ownLc (i : Nat) {y : Str} {py pos spos : Pos} {elt tg iter : Expr} {ifs : List Expr} {scope : Scope} {own : List (Str × Nat)} {fi : S → M (List D × S)} {ts : List Nat} {T : D → S → M S} {ft : S → M (Bool × S)} {fe : S → M (D × S)}
    (hc : X.calm = true) (hN : X.N.Nodup) (hi : PI X tg iter (TIof K cl fi)) (ok : BlkOk X.N X.env.scope scope own)
    (hg : ∀ (s : Shared) (H : Hp) (C : Addr) (cls : List (Str × Addr)) (fp : List Addr), PG (X.blk s H scope (compEnvC scope cls C X.env) fp) tg (TGof K cl ts T))
    (ht : ∀ (s : Shared) (H : Hp) (C : Addr) (cls : List (Str × Addr)) (fp : List Addr), PTs (X.blk s H scope (compEnvC scope cls C X.env) fp) ifs (TTof K cl ft))
    (he : ∀ (s : Shared) (H : Hp) (C : Addr) (cls : List (Str × Addr)) (fp : List Addr), PE (X.blk s H scope (compEnvC scope cls C X.env) fp) elt (TEof K cl fe))
    (hts : ∀ i ∈ ts, i ∈ own.map (·.2)) (hy : X.N[i]? = some y := by rfl) (hyl : X.env.scope.names.lookup y = some .local := by rfl)
    (hsw : swapsWith (.ListComp elt [⟨tg, iter, ifs, 0⟩] scope pos) (some (.Name y py)) spos.line X.env = pure true := by exact sw_true rfl rfl rfl (by decide +kernel)) (hs : ∀ x, foldedSetIterable iter X.env x = pure x := by intro _; rfl) :
    PS X (.Assign [.Name y py] (.ListComp elt [⟨tg, iter, ifs, 0⟩] scope pos) spos) (TSof K cl [i] (sOwn i (dComp fi (own.map (·.2)) T ft fe))) := by
  refine iS (ps_setLc hc hN hy hyl hsw hi ok hg ht he hs) ?_
  rintro E σ H ⟨w, L, sd, W, h⟩
  refine comp_read hts σ H _ ⟨w, L, sd, W, PostF.bd botS h fun r s1 h p H1 st1 np W1 W2 ho => ?_⟩
  exact h (p :: L) _ H1 st1 (W1.setOwn i np W2 ho) agree_set
theorem s_setLc (i : Nat) {y : Str} {py pos spos : Pos} {elt tg iter : Expr} {ifs : List Expr} {scope : Scope} {own : List (Str × Nat)} {fi : S → M (List D × S)} {ts : List Nat} {T : D → S → M S} {ft : S → M (Bool × S)} {fe : S → M (D × S)}
    (hc : X.calm = true) (hN : X.N.Nodup) (hi : PI X tg iter (TIof K cl fi)) (ok : BlkOk X.N X.env.scope scope own)
    (hg : ∀ (s : Shared) (H : Hp) (C : Addr) (cls : List (Str × Addr)) (fp : List Addr), PG (X.blk s H scope (compEnvC scope cls C X.env) fp) tg (TGof K cl ts T))
    (ht : ∀ (s : Shared) (H : Hp) (C : Addr) (cls : List (Str × Addr)) (fp : List Addr), PTs (X.blk s H scope (compEnvC scope cls C X.env) fp) ifs (TTof K cl ft))
    (he : ∀ (s : Shared) (H : Hp) (C : Addr) (cls : List (Str × Addr)) (fp : List Addr), PE (X.blk s H scope (compEnvC scope cls C X.env) fp) elt (TEof K cl fe))
    (hts : ∀ i ∈ ts, i ∈ own.map (·.2)) (hy : X.N[i]? = some y := by rfl) (hyl : X.env.scope.names.lookup y = some .local := by rfl)
    (hsw : swapsWith (.ListComp elt [⟨tg, iter, ifs, 0⟩] scope pos) (some (.Name y py)) spos.line X.env = pure true := by exact sw_true rfl rfl rfl (by decide +kernel)) (hs : ∀ x, foldedSetIterable iter X.env x = pure x := by intro _; rfl) :
    PS X (.Assign [.Name y py] (.ListComp elt [⟨tg, iter, ifs, 0⟩] scope pos) spos) (TSof K cl [i] (sSet i (dComp fi (own.map (·.2)) T ft fe))) := by
  refine iS (ps_setLc hc hN hy hyl hsw hi ok hg ht he hs) ?_
  rintro E σ H ⟨w, L, sd, W, h⟩
  refine comp_read hts σ H _ ⟨w, L, sd, W, PostF.bd botS h fun r s1 h p H1 st1 np W1 W2 ho => ?_⟩
  have st2 : Step w L H L H1 := ⟨st1.keep, st1.alv, fun _ h => .inl h⟩
  exact h L _ H1 st2 (W1.set (ho.rp np (hide_sub fun a ha => List.mem_cons_of_mem _ ha))) agree_set
theorem u64 {k : Nat} {A : Around} (r : Room k A) : A.units + 64 < cLine := by
  have := r.un
  omega
theorem u65 {k : Nat} {A : Around} (r : Room k A) : A.units + 65 < cLine := by
  have := r.un
  omega
/-- a def that keeps its promise, from its walk -/
theorem okP {P : Program} {w : World} {mg : Str → Option Value} {base : Heap} {k : Nat} {f : Addr} {fd : FuncData} {ps : List Str} {x qual : Str} {params : Arguments} {body : List Stmt} {scope : Scope} {dvs : List V} {kws : List (Str × V)} {N : List Str} {F : S → M Out} {n : Nat} {g : FnD}
    (D0 : FunD K x qual params body scope dvs kws f fd) (sc : FnScope N ps scope) (eg : g = runP N.length F) (en : n = ps.length)
    (h : ∀ (cdv : Value) (A : Around) (outer : List Env) (s : Shared) (H : Hp) (E : XK), A.guards = some [] → Room k (A.deeper (envOfC qual scope s.heap.objs.size f cdv)) →
      ∃ ts, PSs (cxOf CX0 P w K mg base N qual scope f cdv A outer s H E).nox body (TSof K cl ts F)) : FnG P w K mg base CX0 (k + 1) f fd ps (spP K cl n g) := by
  subst eg en
  refine okGD D0 sc (fun vs H Q E z => z.1) fun cdv A outer s H vs Q E hg hr z => ?_
  obtain ⟨ts, hb⟩ := h cdv A outer s H E hg hr
  exact walkP hb z
theorem okF {P : Program} {w : World} {mg : Str → Option Value} {base : Heap} {k : Nat} {f : Addr} {fd : FuncData} {ps : List Str} {x qual : Str} {params : Arguments} {body : List Stmt} {scope : Scope} {dvs : List V} {kws : List (Str × V)} {N : List Str} {F : S → M Out} {n : Nat} {g : FnD}
    (D0 : FunD K x qual params body scope dvs kws f fd) (sc : FnScope N ps scope) (eg : g = runF N.length F) (en : n = ps.length)
    (h : ∀ (cdv : Value) (A : Around) (outer : List Env) (s : Shared) (H : Hp) (E : XK), A.guards = some [] → Room k (A.deeper (envOfC qual scope s.heap.objs.size f cdv)) →
      ∃ ts, PSs (cxOf CX0 P w K mg base N qual scope f cdv A outer s H E).nox body (TSof K cl ts F)) : FnG P w K mg base CX0 (k + 1) f fd ps (spF K cl n g) := by
  subst eg en
  refine okGD D0 sc (fun vs H Q E z => z.1) fun cdv A outer s H vs Q E hg hr z => ?_
  obtain ⟨ts, hb⟩ := h cdv A outer s H E hg hr
  exact walkF hb z
theorem okI {P : Program} {w : World} {mg : Str → Option Value} {base : Heap} {k : Nat} {f : Addr} {fd : FuncData} {ps : List Str} {x qual : Str} {params : Arguments} {body : List Stmt} {scope : Scope} {dvs : List V} {kws : List (Str × V)} {N : List Str} {F : S → M Out} {n : Nat} {g : D → List D → M (D × D)}
    (D0 : FunD K x qual params body scope dvs kws f fd) (sc : FnScope N ps scope) (eg : g = runI N.length F) (en : n = ps.length) (hn : ps.length ≤ N.length)
    (h : ∀ (cdv : Value) (A : Around) (outer : List Env) (s : Shared) (H : Hp) (E : XK), A.guards = some [] → Room k (A.deeper (envOfC qual scope s.heap.objs.size f cdv)) →
      ∃ ts, PSs (cxOf CX0 P w K mg base N qual scope f cdv A outer s H E).nox body (TSof K cl ts F)) : FnG P w K mg base CX0 (k + 1) f fd ps (spI K cl n g) := by
  subst eg en
  refine okGD D0 sc (fun vs H Q E z => z.1) fun cdv A outer s H vs Q E hg hr z => ?_
  obtain ⟨ts, hb⟩ := h cdv A outer s H E hg hr
  exact walkI hn hb z
end
end Dt
namespace Dt
open L2 PySem PySem.Spec PyProof.Rows
/-! ### list(zip(a, b)) of two lists -/
theorem zip_len0 : typeLookup (.type "zip") "__len__" = pure none := by
  (rw [typeLookup_type, builtinLookup_eq_fast])
  kernel_rfl
theorem zip_hint0 : typeLookup (.type "zip") "__length_hint__" = pure none := by
  (rw [typeLookup_type, builtinLookup_eq_fast])
  kernel_rfl
/-- what has been drawn -/
def PairsAt (H1 H : Hp) (xs ys : List V) (k : Nat) (out : List V) : Prop := out.length = k ∧ ∀ j, j < k → ∃ T x y, out[j]? = some (.ref T) ∧ xs[j]? = some x ∧ ys[j]? = some y ∧ H T = some (.tup [x, y]) ∧ H1 T = none
/-- the state of the drawing -/
structure Dz (P : Program) (w : World) (h0 : Heap) (H1 : Hp) (z TI TO i1 i2 l1 l2 S : Addr) (xs ys : List V) (k : Nat) (h : Heap) (H : Hp) (acc : Array Value) (out : List V) : Prop where
  keep : ∀ b o, h0.get? b = some o → h.get? b = some o
  sz : h0.objs.size ≤ h.objs.size
  hok : HOk P w H h
  same : ∀ b o, H1 b = some o → H b = some o
  new : ∀ b, H b ≠ none → H1 b = none → h0.objs.size ≤ b
  ti : IsPair h TI (.ref i1) (.ref i2)
  tot : ∃ o, h.get? TO = some o
  it1 : h.IsListIter i1 l1 k
  it2 : h.IsListIter i2 l2 k
  zs : (IsZip h z TI TO .none ∧ ∃ a b, IsPair h TO a b) ∨ ∃ T f oT, IsZipHeld h z TI TO T f ∧ h.get? T = some oT ∧ T ≠ z ∧ T ≠ i1 ∧ T ≠ i2 ∧ T ≠ S
  lst : ∃ c, h.get? S = some (lstObj acc c)
  rel : Vals out acc.toList
  prs : PairsAt H1 H xs ys k out
  hz : H z = none
  hTO : H TO = none
  h1 : H i1 = none
  h2 : H i2 = none
  hS : H S = none
section
variable {P : Program} {w : World} {h0 : Heap} {H1 : Hp} {z TI TO i1 i2 l1 l2 S : Addr} {xs ys : List V} {k : Nat} {h h' : Heap} {H : Hp} {acc : Array Value} {out : List V}
theorem two_le {x y : V} : [x, y].length ≤ sizeLine := by
  show 2 ≤ 2 ^ 24
  decide
/-- one pair more -/
theorem Dz.more (D : Dz P w h0 H1 z TI TO i1 i2 l1 l2 S xs ys k h H acc out) (Z : ZipApart z TI TO i1 i2 l1 l2) {x y : V} {u v : Value} (ru : RelV x u) (rv : RelV y v) (ex : xs[k]? = some x) (ey : ys[k]? = some y)
    (b0 : ∀ b, b = z ∨ b = TO ∨ b = i1 ∨ b = i2 ∨ b = S → h0.objs.size ≤ b) (nTI : TI ≠ S) (nTO : TO ≠ S) (nz : z ≠ S) (n1 : i1 ≠ S) (n2 : i2 ≠ S)
    (hk : ∀ c o, c ≠ z → c ≠ TO → c ≠ i1 → c ≠ i2 → h.get? c = some o → h'.get? c = some o) (hsz : h'.objs.size = h.objs.size + 1) (a1 : IsZipHeld h' z TI TO h.objs.size false ∨ IsZipHeld h' z TI TO h.objs.size true ∨ ∃ T oT, IsZipHeld h' z TI TO T true ∧ h'.get? T = some oT ∧ T ≠ z ∧ T ≠ i1 ∧ T ≠ i2 ∧ T ≠ S)
    (a3 : h'.IsListIter i1 l1 (k + 1)) (a4 : h'.IsListIter i2 l2 (k + 1)) (a5 : IsPair h' h.objs.size u v) (a6 : ∃ o, h'.get? TO = some o) :
    Dz P w h0 H1 z TI TO i1 i2 l1 l2 S xs ys (k + 1) (h'.update S (Obj.mapSeq (·.push (.ref h.objs.size)))) (upd H h.objs.size (.tup [x, y])) (acc.push (.ref h.objs.size)) (out ++ [.ref h.objs.size]) := by
  obtain ⟨c, hl⟩ := D.lst
  have lt : ∀ {c o}, h.get? c = some o → h.objs.size ≠ c := fun e => Nat.ne_of_gt (Heap.lt_size e)
  have hT : H h.objs.size = none := D.hok.fresh (Nat.le_refl _)
  have TS : h.objs.size ≠ S := lt hl
  have Tz : h.objs.size ≠ z := by
    rcases D.zs with ⟨e, _⟩ | ⟨_, _, _, e, _⟩ <;> exact lt e
  have T1 : h.objs.size ≠ i1 := by
    obtain ⟨o, e, _⟩ := D.it1
    exact lt e
  have T2 : h.objs.size ≠ i2 := by
    obtain ⟨o, e, _⟩ := D.it2
    exact lt e
  have up : ∀ b o, b ≠ S → h'.get? b = some o → (h'.update S (Obj.mapSeq (·.push (.ref h.objs.size)))).get? b = some o := fun b o n e => (Heap.get?_update_other _ _ (Ne.symm n)).trans e
  have big : ∀ {b o}, h0.get? b = some o → b ≠ z ∧ b ≠ TO ∧ b ≠ i1 ∧ b ≠ i2 ∧ b ≠ S := fun {b o} e => by
    have l := Heap.lt_size e
    refine ⟨fun q => ?_, fun q => ?_, fun q => ?_, fun q => ?_, fun q => ?_⟩
    · exact absurd (b0 b (.inl q)) (Nat.not_le.mpr l)
    · exact absurd (b0 b (.inr (.inl q))) (Nat.not_le.mpr l)
    · exact absurd (b0 b (.inr (.inr (.inl q)))) (Nat.not_le.mpr l)
    · exact absurd (b0 b (.inr (.inr (.inr (.inl q))))) (Nat.not_le.mpr l)
    · exact absurd (b0 b (.inr (.inr (.inr (.inr q))))) (Nat.not_le.mpr l)
  have trk : ∀ {b : Addr}, H b ≠ none → b ≠ z ∧ b ≠ TO ∧ b ≠ i1 ∧ b ≠ i2 ∧ b ≠ S := fun {b} n =>
    ⟨fun q => n (q ▸ D.hz), fun q => n (q ▸ D.hTO), fun q => n (q ▸ D.h1), fun q => n (q ▸ D.h2), fun q => n (q ▸ D.hS)⟩
  have stay : ∀ b o, H b ≠ none → h.get? b = some o → (h'.update S (Obj.mapSeq (·.push (.ref h.objs.size)))).get? b = some o := fun b o n e =>
    let ⟨q1, q2, q3, q4, q5⟩ := trk n
    up b o q5 (hk b o q1 q2 q3 q4 e)
  have h0le : h0.objs.size ≤ h.objs.size := D.sz
  refine ⟨fun b o e => ?_, ?_, fun b o e => ?_, fun b o e => ?_, fun b n e => ?_, ?_, ?_, ?_, ?_, ?_, ?_, ?_, ?_, ?_, ?_, ?_, ?_, ?_⟩
  · obtain ⟨q1, q2, q3, q4, q5⟩ := big e
    exact up b o q5 (hk b o q1 q2 q3 q4 (D.keep b o e))
  · rw [Heap.size_update, hsz]
    omega
  · by_cases q : b = h.objs.size
    · subst q
      rw [upd_same] at e
      cases e
      exact ⟨two_le, [u, v], .cons ru (.cons rv .nil), _, up _ _ TS a5, rfl, 0, rfl⟩
    · rw [upd_ne q] at e
      have nb : H b ≠ none := by rw [e]; simp
      refine (D.hok b o e).stay (fun b' u' hb e' => stay b' u' ?_ e') (fun b' e' => by rw [upd_ne (ne_of_none e' hT)]; exact e') fun b' xs' e' => by rw [upd_ne (ne_of_none e' hT)]; exact e'
      rcases hb with hb | hb
      · rw [hb]; exact nb
      · rw [hb]; simp
  · have := D.same b o e
    rw [upd_ne (ne_of_none this hT)]
    exact this
  · by_cases q : b = h.objs.size
    · rw [q]; exact h0le
    · rw [upd_ne q] at n
      exact D.new b n e
  · exact up _ _ nTI (hk _ _ Z.TIz Z.TITO Z.TIi1 Z.TIi2 D.ti)
  · obtain ⟨o, e⟩ := a6
    exact ⟨o, up _ _ nTO e⟩
  · exact a3.at fun o e => up _ _ n1 e
  · exact a4.at fun o e => up _ _ n2 e
  · rcases a1 with a1 | a1 | ⟨T, oT, a1, e, q1, q2, q3, q4⟩
    · exact .inr ⟨_, _, _, up _ _ nz a1, up _ _ TS a5, Tz, T1, T2, TS⟩
    · exact .inr ⟨_, _, _, up _ _ nz a1, up _ _ TS a5, Tz, T1, T2, TS⟩
    · exact .inr ⟨_, _, _, up _ _ nz a1, up _ _ q4 e, q1, q2, q3, q4⟩
  · have e := hk S _ (Ne.symm nz) (Ne.symm nTO) (Ne.symm n1) (Ne.symm n2) hl
    exact ⟨_, Heap.get?_update_self (Obj.mapSeq (·.push (.ref h.objs.size))) e rfl⟩
  · rw [Array.toList_push]
    exact D.rel.append (.cons rfl .nil)
  · obtain ⟨q1, q2⟩ := D.prs
    refine ⟨by rw [List.length_append, q1]; rfl, fun j hj => ?_⟩
    by_cases e : j < k
    · obtain ⟨T, x', y', p1, p2, p3, p4, p5⟩ := q2 j e
      refine ⟨T, x', y', by rw [List.getElem?_append_left (by omega)]; exact p1, p2, p3, by rw [upd_ne (ne_of_none p4 hT)]; exact p4, p5⟩
    · have ej : j = k := by omega
      subst ej
      refine ⟨h.objs.size, x, y, by rw [List.getElem?_append_right (by omega), q1, Nat.sub_self]; rfl, ex, ey, upd_same, ?_⟩
      cases q : H1 h.objs.size with
      | none => rfl
      | some o =>
        have := D.same _ _ q
        rw [hT] at this
        cases this
  · rw [upd_ne (Ne.symm Tz)]; exact D.hz
  · obtain ⟨o, e⟩ := D.tot
    rw [upd_ne (Ne.symm (lt e))]
    exact D.hTO
  · rw [upd_ne (Ne.symm T1)]; exact D.h1
  · rw [upd_ne (Ne.symm T2)]; exact D.h2
  · rw [upd_ne (Ne.symm TS)]; exact D.hS
/-- the heap behind the last pair -/
structure Fz (P : Program) (w : World) (h0 : Heap) (H1 : Hp) (S : Addr) (xs ys : List V) (h : Heap) (H : Hp) (acc : Array Value) (out : List V) : Prop where
  keep : ∀ b o, h0.get? b = some o → h.get? b = some o
  hok : HOk P w H h
  same : ∀ b o, H1 b = some o → H b = some o
  new : ∀ b, H b ≠ none → H1 b = none → h0.objs.size ≤ b
  lst : ∃ c, h.get? S = some (lstObj acc c)
  rel : Vals out acc.toList
  prs : PairsAt H1 H xs ys (min xs.length ys.length) out
  hS : H S = none
theorem Dz.last (D : Dz P w h0 H1 z TI TO i1 i2 l1 l2 S xs ys (min xs.length ys.length) h H acc out) (b0 : ∀ b, b = z ∨ b = TO ∨ b = i1 ∨ b = i2 → h0.objs.size ≤ b) (nTO : TO ≠ S) (nz : z ≠ S) (n1 : i1 ≠ S) (n2 : i2 ≠ S)
    (hk : ∀ c o, c ≠ z → c ≠ TO → c ≠ i1 → c ≠ i2 → h.get? c = some o → h'.get? c = some o) : Fz P w h0 H1 S xs ys h' H acc out := by
  obtain ⟨c, hl⟩ := D.lst
  have stay : ∀ b o, H b ≠ none → h.get? b = some o → h'.get? b = some o := fun b o n e => hk b o (fun q => n (q ▸ D.hz)) (fun q => n (q ▸ D.hTO)) (fun q => n (q ▸ D.h1)) (fun q => n (q ▸ D.h2)) e
  refine ⟨fun b o e => ?_, fun b o e => ?_, D.same, D.new, ⟨c, hk S _ (Ne.symm nz) (Ne.symm nTO) (Ne.symm n1) (Ne.symm n2) hl⟩, D.rel, D.prs, D.hS⟩
  · have l := Heap.lt_size e
    have far : ∀ {d}, h0.objs.size ≤ d → b ≠ d := fun q z => absurd (z ▸ q) (Nat.not_le.mpr l)
    exact hk b o (far (b0 z (.inl rfl))) (far (b0 TO (.inr (.inl rfl)))) (far (b0 i1 (.inr (.inr (.inl rfl))))) (far (b0 i2 (.inr (.inr (.inr rfl))))) (D.keep b o e)
  · have nb : H b ≠ none := by rw [e]; simp
    refine (D.hok b o e).stay (fun b' u' hb e' => stay b' u' ?_ e') (fun _ q => q) fun _ _ q => q
    rcases hb with hb | hb
    · rw [hb]; exact nb
    · rw [hb]; simp
theorem vals_at : ∀ {xs : List V} {us : List Value}, Vals xs us → ∀ {j : Nat} {x : V}, xs[j]? = some x → ∃ u, us[j]? = some u ∧ RelV x u
  | _, _, .nil, j, x, e => by simp at e
  | _, _, .cons r t, 0, x, e => ⟨_, rfl, by cases e; exact r⟩
  | _, _, .cons r t, j + 1, x, e => vals_at t (by simpa using e)
theorem drainZ {A : Around} {s : Shared} {R : Result → Shared → Prop} {us vs : List Value} {res : Value} (hA : A.handled = none) (Z : ZipApart z TI TO i1 i2 l1 l2)
    (b0 : ∀ b, b = z ∨ b = TO ∨ b = i1 ∨ b = i2 ∨ b = S → h0.objs.size ≤ b) (nTI : TI ≠ S) (nTO : TO ≠ S) (nz : z ≠ S) (n1 : i1 ≠ S) (n2 : i2 ≠ S) (q1 : h0.IsList l1 us.toArray) (q2 : h0.IsList l2 vs.toArray) (r1 : Vals xs us) (r2 : Vals ys vs) (hz : xs.length ≤ sizeLine)
    (hend : ∀ h H acc out, Fz P w h0 H1 S xs ys h H acc out → R (.ok (.ret res)) { s with heap := h }) : ∀ (m k : Nat) (h : Heap) (H : Hp) (acc : Array Value) (out : List V), k + m = min xs.length ys.length → Dz P w h0 H1 z TI TO i1 i2 l1 l2 S xs ys k h H acc out →
      codeAny (model P w) A (.builtin "list.extend.loop" ⟨[.ref S, .ref z, res], []⟩) R { s with heap := h } := by
  have len1 := r1.length
  have len2 := r2.length
  have b4 : ∀ b, b = z ∨ b = TO ∨ b = i1 ∨ b = i2 → h0.objs.size ≤ b := fun b q => by
    rcases q with q | q | q | q
    · exact b0 b (.inl q)
    · exact b0 b (.inr (.inl q))
    · exact b0 b (.inr (.inr (.inl q)))
    · exact b0 b (.inr (.inr (.inr (.inl q))))
  intro m
  induction m with
  | zero =>
    intro k h H acc out hk0 D
    have ek : k = min xs.length ys.length := by omega
    subst ek
    have L1 := q1.at fun o e => D.keep _ o e
    have L2 := q2.at fun o e => D.keep _ o e
    have ends : us.toArray[min xs.length ys.length]? = none ∨ vs.toArray[min xs.length ys.length]? = none := by
      rcases Nat.le_total xs.length ys.length with q | q
      · exact .inl (Array.getElem?_eq_none (by rw [List.size_toArray, ← len1]; omega))
      · exact .inr (Array.getElem?_eq_none (by rw [List.size_toArray, ← len2]; omega))
    (refine codeAny_builtin F.entry_extend_loop ?_)
    (rw [Around.under_plainId F.plain_extend_loop _])
    show wpAny _ A.in1 (pyNext (.ref z) >>= _) _ _ { s with heap := h }
    refine wpAny_bind ?_
    rcases D.zs with ⟨hz0, a, b, hTO⟩ | ⟨T, f, oT, hz0, hT, t1, t2, t3, t4⟩
    · exact wpAny_pyNext_zip_end (s := { s with heap := h }) (A := A.in1) hA Z hz0 D.ti hTO D.it1 D.it2 L1 L2 ends fun h' hk => wpAny_pure (hend h' H acc out (D.last b4 nTO nz n1 n2 hk))
    · exact wpAny_pyNext_zip_end_held (s := { s with heap := h }) (A := A.in1) hA Z hz0 hT D.ti D.it1 D.it2 L1 L2 ends fun h' hk => wpAny_pure (hend h' H acc out (D.last b4 nTO nz n1 n2 fun c o c1 _ c2 c3 e => hk c o c1 c2 c3 e))
  | succ m ih =>
    intro k h H acc out hk0 D
    have hx1 : k < xs.length := by omega
    have hy1 : k < ys.length := by omega
    have gx : xs[k]? = some xs[k] := List.getElem?_eq_getElem hx1
    have gy : ys[k]? = some ys[k] := List.getElem?_eq_getElem hy1
    obtain ⟨u, eu, ru⟩ := vals_at r1 gx
    obtain ⟨v, ev, rv⟩ := vals_at r2 gy
    have eu2 : us.toArray[k]? = some u := by simpa using eu
    have ev2 : vs.toArray[k]? = some v := by simpa using ev
    have L1 := q1.at fun o e => D.keep _ o e
    have L2 := q2.at fun o e => D.keep _ o e
    have asz : acc.size < sizeLine := by
      have q := D.prs.1
      have q' : out.length = acc.size := by simpa using D.rel.length
      omega
    have push : ∀ h', (∀ c o, c ≠ z → c ≠ TO → c ≠ i1 → c ≠ i2 → h.get? c = some o → h'.get? c = some o) →
        Dz P w h0 H1 z TI TO i1 i2 l1 l2 S xs ys (k + 1) (h'.update S (Obj.mapSeq (·.push (.ref h.objs.size)))) (upd H h.objs.size (.tup [xs[k], ys[k]])) (acc.push (.ref h.objs.size)) (out ++ [.ref h.objs.size]) →
        wpAny (model P w) A.in1 (do Builtin.List.listUpdate (.ref S) (·.push (.ref h.objs.size)); again (.builtin "list.extend.loop" ⟨[.ref S, .ref z, res], []⟩))
          (fun fin s' => match fin with
            | .done f => R (.ok f) s'
            | .again c' => c'.quiet = true ∧ codeAny (model P w) A c' R s') (fun e s' => R (.error e) s') { s with heap := h' } := fun h' hk D' => by
      obtain ⟨c, hl⟩ := D.lst
      have e := hk S _ (Ne.symm nz) (Ne.symm nTO) (Ne.symm n1) (Ne.symm n2) hl
      show wpAny _ _ (updateSeq S (·.push (.ref h.objs.size)) >>= _) _ _ _
      refine wpAny_bind ?_
      exact wpAny_updateSeq e rfl (wpAny_pure ⟨plainId_quiet F.plain_extend_loop _, ih (k + 1) _ _ _ _ (by omega) D'⟩) (Nat.le_of_lt asz) (by show (acc.push _).size ≤ sizeLine + 1; rw [Array.size_push]; omega)
    (refine codeAny_builtin F.entry_extend_loop ?_)
    (rw [Around.under_plainId F.plain_extend_loop _])
    show wpAny _ A.in1 (pyNext (.ref z) >>= _) _ _ { s with heap := h }
    refine wpAny_bind ?_
    rcases D.zs with ⟨hz0, a, b, hTO⟩ | ⟨T, f, oT, hz0, hT, t1, t2, t3, t4⟩
    · refine wpAny_pyNext_zip_item (s := { s with heap := h }) (A := A.in1) Z hz0 D.ti hTO D.it1 D.it2 L1 L2 eu2 ev2 fun h' a1 a2 a3 a4 a5 a6 hk => ?_
      exact push h' hk (D.more Z ru rv gx gy b0 nTI nTO nz n1 n2 hk a6 (.inl a1) a3 a4 a5 ⟨_, a2⟩)
    · refine wpAny_pyNext_zip_item_held (s := { s with heap := h }) (A := A.in1) Z hz0 hT D.ti D.it1 D.it2 L1 L2 eu2 ev2 fun h' a1 a3 a4 a5 a6 hk => ?_
      have hk' : ∀ c o, c ≠ z → c ≠ TO → c ≠ i1 → c ≠ i2 → h.get? c = some o → h'.get? c = some o := fun c o c1 _ c2 c3 e => hk c o c1 c2 c3 e
      obtain ⟨oo, eo⟩ := D.tot
      exact push h' hk' (D.more Z ru rv gx gy b0 nTI nTO nz n1 n2 hk' a6 (.inr (.inr ⟨T, oT, a1, hk T oT t1 t2 t3 hT, t1, t2, t3, t4⟩)) a3 a4 a5 ⟨oo, hk TO oo Z.TOz Z.TOi1 Z.TOi2 eo⟩)
end
/-- list(z), z a zip that was just made -/
theorem call_listZ {P : Program} {w : World} {A : Around} {s : Shared} {H1 : Hp} {l1 l2 : Addr} {xs ys : List V} {us vs : List Value} {h' : Heap} {Q : Value → Shared → Prop} {E : Value → Shared → Prop} (hA : A.handled = none) (hok : HOk P w H1 s.heap)
    (q1 : s.heap.IsList l1 us.toArray) (q2 : s.heap.IsList l2 vs.toArray) (r1 : Vals xs us) (r2 : Vals ys vs) (hlen : xs.length ≤ sizeLine) (lt1 : l1 < s.heap.objs.size) (lt2 : l2 < s.heap.objs.size)
    (zz : IsZip h' (s.heap.objs.size + 4) (s.heap.objs.size + 2) (s.heap.objs.size + 3) .none) (zTI : IsPair h' (s.heap.objs.size + 2) (.ref s.heap.objs.size) (.ref (s.heap.objs.size + 1))) (zTO : IsPair h' (s.heap.objs.size + 3) .none .none)
    (z1 : h'.IsListIter s.heap.objs.size l1 0) (z2 : h'.IsListIter (s.heap.objs.size + 1) l2 0) (zs : h'.objs.size = s.heap.objs.size + 5) (zk : ∀ c o, s.heap.get? c = some o → h'.get? c = some o)
    (hQ : ∀ h H acc out, Fz P w s.heap H1 h'.objs.size xs ys h H acc out → Q (.ref h'.objs.size) { s with heap := h }) : wpAny (model P w) A (call (.type "list") [.ref (s.heap.objs.size + 4)]) Q E { s with heap := h' } := by
  refine callType_codes (Q₁ := fun obj st => obj = .ref h'.objs.size ∧ st = { s with heap := h'.push { cls := .type "list", data := .seq #[] } }) F.called_list (F.typeCall_list_1 _) F.entry_list_init (code_list_new _ ⟨rfl, rfl⟩) fun obj st hst => ?_
  obtain ⟨rfl, rfl⟩ := hst
  have e0 : (h'.push { cls := .type "list", data := .seq #[] }).get? h'.objs.size = some { cls := .type "list", data := .seq #[] } := Heap.get?_push_size _ rfl
  refine ⟨⟨_, e0, rfl⟩, F.args_list_init_2 _ _, ?_⟩
  show wpAny _ A.in1.in1 (do let old ← Builtin.List.listItems (.ref h'.objs.size); Builtin.List.listUpdate (.ref h'.objs.size) (fun _ => #[]); letGo old.toList.reverse; Builtin.List.listExtendWith (.ref h'.objs.size) (.ref (s.heap.objs.size + 4)) .none) _ _ _
  refine wpAny_bind ?_
  unfold Builtin.List.listItems
  refine wpAny_bind (wpAny_seqItems e0 rfl (wpAny_pure ?_))
  show wpAny _ A.in1.in1 (updateSeq h'.objs.size (fun _ => #[]) >>= fun _ => letGo (#[] : Array Value).toList.reverse >>= fun _ => Builtin.List.listExtendWith (.ref h'.objs.size) (.ref (s.heap.objs.size + 4)) .none) _ _ _
  refine wpAny_bind (wpAny_updateSeq e0 rfl ?_)
  have e1 := Heap.get?_update_self (Obj.mapSeq (fun _ => (#[] : Array Value))) e0 rfl
  (refine wpAny_bind (wpAny_letGo ?_))
  (unfold Builtin.List.listExtendWith)
  have nS : ∀ {c o}, h'.get? c = some o → c ≠ h'.objs.size := fun e => Nat.ne_of_lt (Heap.lt_size e)
  have kU : ∀ (g : Heap) (f : Obj → Obj), (∀ c o, h'.get? c = some o → g.get? c = some o) → ∀ c o, h'.get? c = some o → (g.update h'.objs.size f).get? c = some o := fun g f q c o e => (Heap.get?_update_other _ _ (Ne.symm (nS e))).trans (q c o e)
  have k0 : ∀ c o, h'.get? c = some o → (h'.push { cls := .type "list", data := .seq #[] }).get? c = some o := fun c o e => Heap.get?_push_of_some _ e
  have k1 := kU _ (Obj.mapSeq (fun _ => (#[] : Array Value))) k0
  have ty : ∀ {g : Heap}, (∀ c o, h'.get? c = some o → g.get? c = some o) → ({ s with heap := g } : Shared).TypeIs (.ref (s.heap.objs.size + 4)) "zip" := fun {g} q => ⟨_, q _ _ zz, rfl⟩
  refine wpAny_bind (wpAny_typeOf (ty k1) ?_)
  have ne : ∀ i : Nat, i < 5 → ¬ (s.heap.objs.size + i = h'.objs.size) := fun i hi q => by
    rw [zs] at q
    omega
  have b1 : Builtin.List.listSameRef (.ref h'.objs.size) (.ref (s.heap.objs.size + 4)) = false := by
    exact beq_false_of_ne fun q => ne 4 (by decide) q.symm
  have b2 : (Value.type "zip" == Value.type "list") = false := by decide
  have b3 : (Value.type "zip" == Value.type "tuple") = false := by decide
  simp only [b1, b2, b3, Bool.or_false, Bool.false_eq_true, if_false]
  refine wpAny_bind (wpAny_pyIter_zip (s := { s with heap := _ }) (k1 _ _ zz) ?_)
  (refine wpAny_bind (wpAny_holding ?_))
  (unfold Builtin.List.listLengthHint)
  refine wpAny_bind (wpAny_specialOf (ty k1) zip_len0 ?_)
  show wpAny _ A.in1.in1 (specialOf (Value.ref (s.heap.objs.size + 4)) (Str.ofString "__length_hint__") >>= _) _ _ _
  refine wpAny_bind (wpAny_specialOf (ty k1) zip_hint0 ?_)
  refine wpAny_pure ?_
  show wpAny _ A.in1.in1 (rule "list.extend.makes-room" >>= fun _ => Builtin.List.listTouch (.ref h'.objs.size) >>= fun _ => again (.builtin "list.extend.loop" ⟨[.ref h'.objs.size, .ref (s.heap.objs.size + 4), .none], []⟩)) _ _ _
  (refine wpAny_bind (wpAny_rule ?_))
  refine wpAny_bind ?_
  show wpAny _ A.in1.in1 (updateSeq h'.objs.size (·.push .none) >>= fun _ => updateSeq h'.objs.size (·.pop)) _ _ _
  refine wpAny_bind (wpAny_updateSeq e1 rfl ?_)
  have e2 := Heap.get?_update_self (Obj.mapSeq (·.push Value.none)) e1 rfl
  refine wpAny_updateSeq (hz := by seq_fits) e2 rfl ?_
  have e3 := Heap.get?_update_self (Obj.mapSeq (·.pop)) e2 rfl
  have k3 := kU _ (Obj.mapSeq (·.pop)) (kU _ (Obj.mapSeq (·.push Value.none)) k1)
  (refine wpAny_pure ⟨plainId_quiet F.plain_extend_loop _, ?_⟩)
  have fr : ∀ {c : Nat}, s.heap.objs.size ≤ c → H1 c = none := fun hc => hok.fresh hc
  have Z := PySem.W.ktu_apart s.heap.objs.size l1 l2 lt1 lt2
  refine drainZ (s := s) (H1 := H1) (xs := xs) (ys := ys) (us := us) (vs := vs) (A := A.in1) (h0 := s.heap) hA Z (fun b q => ?_) (ne 2 (by decide)) (ne 3 (by decide)) (ne 4 (by decide)) (ne 0 (by decide)) (ne 1 (by decide)) q1 q2 r1 r2 hlen
    (fun h H acc out F0 => ⟨rfl, hQ h H acc out F0⟩) (min xs.length ys.length) 0 _ H1 _ [] (by omega) ⟨fun b o e => k3 b o (zk b o e), ?_, hok.kept fun b o e => k3 b o (zk b o e), fun _ _ e => e, fun b n e => absurd e n, k3 _ _ zTI, ⟨_, k3 _ _ zTO⟩, z1.at fun o e => k3 _ o e, z2.at fun o e => k3 _ o e, .inl ⟨k3 _ _ zz, _, _, k3 _ _ zTO⟩, ⟨_, e3⟩, .nil, ⟨rfl, fun j hj => absurd hj (Nat.not_lt_zero j)⟩, fr (Nat.le_add_right _ _), fr (Nat.le_add_right _ _), fr (Nat.le_refl _), fr (Nat.le_add_right _ _), fr (by rw [zs]; exact Nat.le_add_right _ _)⟩
  · rcases q with rfl | rfl | rfl | rfl | rfl
    · exact Nat.le_add_right _ _
    · exact Nat.le_add_right _ _
    · exact Nat.le_refl _
    · exact Nat.le_add_right _ _
    · rw [zs]
      exact Nat.le_add_right _ _
  · rw [Heap.size_update, Heap.size_update, Heap.size_update, Heap.size_push]
    omega
def tLZ (K : PySem.W.Frag) (ta : TA) : TE := fun σ H Q => ta σ H fun vs H1 => ∃ l1 l2 xs ys, vs = [.ref l1, .ref l2] ∧ SqL K H1 l1 xs ∧ SqL K H1 l2 ys ∧ ∀ H2 out p, (∀ b o, H1 b = some o → H2 b = some o) → PairsAt H1 H2 xs ys (min xs.length ys.length) out → out.length ≤ sizeLine → H2 p = none → Q (.ref p) (upd H2 p (.lst out))
section
variable {X : Cx} {ta : TA} {a b : Expr} {p1 p2 pz pos : Pos} {k : Nat}
theorem pe_listZ (hr : Room k X.A) (hl : X.mg "list" = none) (hz : X.mg "zip" = none) (ha : PA X [a, b] ta) (g1 : Gl X "list" := by rfl) (g2 : Gl X "zip" := by rfl) (hs : starEach [a, b] X.env = (false, eval a X.env) :: starEach [b] X.env := by rfl)
    (hpl : (backTo pz (starEach [b] X.env)).any (·.1) = false := by rfl) (he : starEach [.Call (.Name "zip" p2) [a, b] [] pz] X.env = (false, eval (.Call (.Name "zip" p2) [a, b] [] pz) X.env) :: starEach [] X.env := by rfl) :
    PE X (.Call (.Name "list" p1) [.Call (.Name "zip" p2) [a, b] [] pz] [] pos) (tLZ X.K ta) := by
  (refine ⟨fun pins s σ H Q I h => ?_⟩)
  refine wpAny_Call_Name_kw (ld_blt I g1 hl (show bootBuiltins "list" = some (.type "list") from rfl) ?_)
  (refine PyProof.Rows.callWith_type1 ?_ he rfl)
  rw [he]
  show wpAny _ _ (spliced ((false, eval (.Call (.Name "zip" p2) [a, b] [] pz) X.env) :: backTo pos (starEach [] X.env))) _ _ s
  refine Calls.spliced_cons ?_
  refine Call_ (ld_blt I g2 hz PyProof.Rows.boot_zip (PyProof.Rows.callWith_type1 (thn (ha.run pz pins s σ H _ I h) fun us s1 ⟨vs, H1, I1, r1, q⟩ => ?_) hs hpl))
  obtain ⟨l1, l2, xs, ys, rfl, hx, hy, q⟩ := q
  obtain ⟨u1, u2, rfl, ra, rb⟩ := vals2 r1
  cases ra
  cases rb
  obtain ⟨its, rv, P1, z1⟩ := I1.list hx
  obtain ⟨its2, rv2, P2, z2⟩ := I1.list hy
  refine call_zip_2 P1.isList P2.isList fun h' b1 b2 b3 b4 b5 b6 b7 => ?_
  refine Calls.spliced_nil ?_
  refine call_listZ (s := s1) hr.hd I1.hok P1.isList P2.isList rv rv2 z1 P1.lt P2.lt b1 b2 b3 b4 b5 b6 b7 fun h H' acc out Fz0 => ?_
  obtain ⟨c, hl0⟩ := Fz0.lst
  have ho : out.length ≤ sizeLine := by
    rw [Fz0.prs.1]
    omega
  refine ⟨.ref h'.objs.size, upd H' h'.objs.size (.lst out), I1.drained (s' := { s1 with heap := h }) (by omega) ho hl0 Fz0.rel .nil rfl I1.bare ⟨fun b o e _ _ _ => Fz0.keep b o e, fun b o e _ _ _ => ⟨o.slots, Fz0.keep b o e⟩, fun b o e n _ => ?_, fun b o e _ => ⟨o, Fz0.keep b o e⟩, fun b x e => Fz0.same b _ e, fun b o x e => Fz0.same b _ e, fun b ps e => ⟨#[], by rw [Array.append_empty]; exact Fz0.same b _ e⟩⟩ Fz0.hok Fz0.hS, rfl, q _ _ _ Fz0.same Fz0.prs ho Fz0.hS⟩
  cases z : H' b with
  | none => rfl
  | some o2 => exact absurd (Fz0.new b (by rw [z]; simp) n) (Nat.not_le.mpr (Heap.lt_size e))
end
/-- list(zip(a, b)) -/
def dListZip (fr : S → M (List D × S)) : S → M (D × S) := fun s => bd (fr s) fun p => match p.1 with
  | [.lst ds, .lst es] => ok (.lst (zipD ds es), p.2)
  | _ => none
theorem rpA_of {K : PySem.W.Frag} {cl : Cl} {H : Hp} : ∀ {vs : List V} {ds : List D}, vs.length = ds.length → (∀ (j : Nat) (d : D), ds[j]? = some d → ∃ v, vs[j]? = some v ∧ Rp K cl H v d) → RpA K cl H vs ds
  | [], [], _, _ => .nil
  | [], _ :: _, h, _ => by (cases h)
  | _ :: _, [], h, _ => by (cases h)
  | v :: vs, d :: ds, h, r => by
    obtain ⟨v', e, q⟩ := r 0 d rfl
    cases e
    exact .cons q (rpA_of (Nat.succ.inj h) fun j d' e => r (j + 1) d' e)
section
variable {X : Cx} {cl : Cl} {a b : Expr} {p1 p2 pz pos : Pos} {k : Nat} {fr : S → M (List D × S)}
theorem d_listzip (hr : Room k X.A) (hl : X.mg "list" = none) (hz : X.mg "zip" = none) (ha : PA X [a, b] (TAof X.K cl fr)) (g1 : Gl X "list" := by rfl) (g2 : Gl X "zip" := by rfl) (hs : starEach [a, b] X.env = (false, eval a X.env) :: starEach [b] X.env := by rfl)
    (hpl : (backTo pz (starEach [b] X.env)).any (·.1) = false := by rfl) (he : starEach [.Call (.Name "zip" p2) [a, b] [] pz] X.env = (false, eval (.Call (.Name "zip" p2) [a, b] [] pz) X.env) :: starEach [] X.env := by rfl) :
    PE X (.Call (.Name "list" p1) [.Call (.Name "zip" p2) [a, b] [] pz] [] pos) (TEof X.K cl (dListZip fr)) := by
  refine iE (pe_listZ hr hl hz ha g1 g2 hs hpl he) ?_
  rintro σ H Q ⟨w, L, sd, W, h⟩
  refine ⟨w, L, sd, W, PostA.bd botE h fun rs s1 h vs H1 st1 W1 rr => ?_⟩
  dsimp only at h
  split at h
  · next ds es =>
    obtain ⟨v, u, rfl, rv, ru⟩ := rr.two
    cases rv with
    | @lst l1 xs _ q1 r1 =>
      cases ru with
      | @lst l2 ys _ q2 r2 =>
        refine ⟨l1, l2, xs, ys, rfl, hide_le.seq q1, hide_le.seq q2, fun H2 out p sm pr ho np => ?_⟩
        have sm2 : Same H1 (upd H2 p (.lst out)) := fun b o e => same_upd np b o (sm b o e)
        have al : ∀ c ∈ L ++ w.O0, (upd H2 p (.lst out)) c ≠ none := (W1.ext sm2).alive
        have np1 : H1 p = none := by
          cases z : H1 p with
          | none => rfl
          | some o =>
            have := sm p o z
            rw [np] at this
            cases this
        have hid : Same (hide (L ++ w.O0) H1) (hide (L ++ w.O0) (upd H2 p (.lst out))) := fun c o e => by
          obtain ⟨n, e⟩ := hide_some.mp e
          exact hide_some.mpr ⟨n, sm2 c o e⟩
        refine h _ _ (st1.trans (.of_same sm2)) (W1.ext sm2) (.lst (.inl (.inl (hide_some.mpr ⟨W1.new_ne np1, upd_same⟩))) (rpA_of ?_ fun j d e => ?_))
        · rw [pr.1, zipD_len, r1.len, r2.len]
        · have hj : j < (zipD ds es).length := (List.getElem?_eq_some_iff.mp e).1
          rw [zipD_len] at hj
          obtain ⟨T, x, y, e1, e2, e3, e4, e5⟩ := pr.2 j (by rw [r1.len, r2.len]; exact hj)
          have g1 : ds[j]? = some ds[j] := List.getElem?_eq_getElem (by omega)
          have g2 : es[j]? = some es[j] := List.getElem?_eq_getElem (by omega)
          rw [zipD_get ds es j _ _ g1 g2] at e
          cases e
          obtain ⟨x', k1, k2⟩ := r1.get j g1
          obtain ⟨y', k3, k4⟩ := r2.get j g2
          rw [e2] at k1
          cases k1
          rw [e3] at k3
          cases k3
          have nT : T ∉ L ++ w.O0 := W1.new_ne e5
          exact ⟨.ref T, e1, .tup (.inl (.inl (hide_some.mpr ⟨nT, same_upd np _ _ e4⟩))) (.cons (k2.mono hid) (.cons (k4.mono hid) .nil))⟩
  · exact h.elim
end
end Dt
namespace Dt
open L2 PySem PySem.Spec PyProof.Rows
/-! ### texts told apart -/
def eqS : Op2 := fun d e => match d, e with
  | .str x, .str y => ok (.bl (decide (x = y)))
  | _, _ => none
def neS : Op2 := fun d e => match d, e with
  | .str x, .str y => ok (.bl (!decide (x = y)))
  | _, _ => none
section
variable {X : Cx} {K : PySem.W.Frag} {cl : Cl}
theorem dec_strV {x y : Str} : decide (V.str x = V.str y) = decide (x = y) := by
  rw [Bool.eq_iff_iff]
  simp
theorem k_eqS : OpK X K cl (compareOp .Eq) eqS := by
  refine ⟨_, op_eq, fun O H x y d e Q _ rx ry h => ?_⟩
  unfold eqS at h
  split at h
  · cases rx
    cases ry
    exact ⟨rfl, by rw [dec_strV]; exact h.now (.bl _)⟩
  · exact h.elim
theorem k_neS : OpK X K cl (compareOp .NotEq) neS := by
  refine ⟨_, op_ne, fun O H x y d e Q _ rx ry h => ?_⟩
  unfold neS at h
  split at h
  · cases rx
    cases ry
    exact ⟨rfl, by rw [dec_strV]; exact h.now (.bl _)⟩
  · exact h.elim
end
end Dt
namespace Dt
open L2 PySem PySem.Spec PyProof.Rows
/-! ### xs.index(e) -/
def idxD (d e : D) : M D := match d with
  | .lst xs => if e.plain && D.plains xs && SeqAt.shaped e.py && SeqAt.shaped (.list (D.pys xs)) then match (D.pys xs).findIdx? (fun z => PyData.eqv z e.py) with
    | some j => ok (.int (j : Nat))
    | none => none
    else none
  | _ => none
def dIdx (fa fb : S → M (D × S)) : S → M (D × S) := fun s => bd (fa s) fun p => match p.1 with
  | .lst xs => bd (fb p.2) fun q => bd (idxD (.lst xs) q.1) fun r => ok (r, q.2)
  | _ => none
section
variable {X : Cx} {cl : Cl} {o e : Expr} {fa fb : S → M (D × S)} {apos cpos : Pos}
theorem d_index (hu : X.A.units + 65 < cLine) (ho : PE X o (TEof X.K cl fa)) (he : PE X e (TEof X.K cl fb)) (hbase : attributeBase o "index" X.env (eval o X.env) = eval o X.env := by rfl)
    (hfew : ((backTo cpos (starEach [e] X.env)).all (fun x => !x.1) && (backToKw cpos (keywordEach [] X.env)).all (fun x => x.1.isSome) && decide ([e].length + ([] : List Keyword).length + (if ([] : List Keyword).isEmpty then 0 else 1) < 30)) = true := by rfl)
    (hline : (apos.endLine == cpos.line) = true := by rfl) (hs : starEach [e] X.env = (false, eval e X.env) :: starEach [] X.env := by rfl) (hpl : (backTo cpos (starEach [] X.env)).any (·.1) = false := by rfl) :
    PE X (.Call (.Attribute o "index" apos) [e] [] cpos) (TEof X.K cl (dIdx fa fb)) := by
  refine iE (pe_bm PySem.F.plainAttrs_list PySem.F.slot_list_index PySem.F.type_list_index (mt_indexD hu) ho (pa_cons he pa_nil hs) hbase hfew hline hs hpl) ?_
  rintro σ H Q ⟨w, L, sd, W, h⟩
  refine ⟨w, L, sd, W, PostE.bd botE h fun x s1 h v H1 st1 W1 rx => ?_⟩
  cases rx with
  | @lst ad xs ds sq rs =>
    refine ⟨.inl ⟨rfl, _, hide_le.seq sq⟩, w, L, s1, W1, PostE.bd botE h fun y s2 h u H2 st2 W2 ry => ?_⟩
    have h' := h.fin (st1.trans st2) W2
    unfold idxD at h'
    dsimp only at h'
    split at h'
    · next c =>
      simp only [Bool.and_eq_true] at c
      obtain ⟨⟨⟨c1, c2⟩, c3⟩, c4⟩ := c
      have rl := ((Rp.lst sq rs).mono (st2.sn W2)).mono hide_le
      split at h'
      · next j ej =>
        obtain ⟨hj, q1, q2⟩ := List.findIdx?_eq_some_iff_getElem.mp ej
        have d1 := rp_dp (D.lst ds) _ rl (by rw [D.plain]; exact c2)
        rw [D.py] at d1
        refine ⟨ad, u, y.py, D.pys ds, j, (D.pys ds)[j], rfl, rfl, d1, rp_dp y _ (ry.mono hide_le) c1, c4, c3, List.getElem?_eq_getElem hj, q1, fun m z' hm e' => ?_, h'.now (.int _)⟩
        obtain ⟨hm', ez⟩ := List.getElem?_eq_some_iff.mp e'
        have := q2 m hm
        rw [ez] at this
        simpa using this
      · exact h'.elim
    · exact h'.elim
  | _ => exact h.elim
/-- a constant of the module -/
theorem d_gint {x : Str} {i : Int} {K : PySem.W.Frag} {pos : Pos} (hm : ∃ t, X.mg x = some (.int i t)) (hg : Gl X x := by rfl) (hd : (x == ("__debug__" : Str)) = false := by decide) : PE X (.Name x pos) (TEof K cl (dC (.int i))) := by
  obtain ⟨t, hm⟩ := hm
  exact dC_of (pe_glob hg hm (v := .int i) ⟨t, rfl⟩ hd) fun _ => .int i
end
/-- two keywords in the other order -/
def sw2 {α : Type} : List α → List α
  | [a, b] => [b, a]
  | l => l
theorem vals_sw2 {vs : List V} {us : List Value} (h : Vals vs us) : Vals (sw2 vs) (sw2 us) := by
  cases h with
  | nil => exact .nil
  | cons r1 t =>
    cases t with
    | nil => exact .cons r1 .nil
    | cons r2 t =>
      cases t with
      | nil => exact .cons r2 (.cons r1 .nil)
      | cons r3 t => exact .cons r1 (.cons r2 (.cons r3 t))
theorem rpA_sw2 {K : PySem.W.Frag} {cl : Cl} {H : Hp} {vs : List V} {ds : List D} (h : RpA K cl H vs ds) : RpA K cl H (sw2 vs) (sw2 ds) := by
  cases h with
  | nil => exact .nil
  | cons r1 t =>
    cases t with
    | nil => exact .cons r1 .nil
    | cons r2 t =>
      cases t with
      | nil => exact .cons r2 (.cons r1 .nil)
      | cons r3 t => exact .cons r1 (.cons r2 (.cons r3 t))
end Dt
namespace Dt
open L2 PySem PySem.Spec PyProof.Rows
/-! ### reckoning with mirrors -/
theorem v_add (i j : Int) : addI (.int i) (.int j) = ok (.int (i + j)) := rfl
theorem v_sub (i j : Int) : subI (.int i) (.int j) = ok (.int (i - j)) := rfl
theorem v_mulL {i j : Int} (h1 : -(2 ^ 64) < i) (h2 : i < 2 ^ 64) : mulI (.int i) (.int j) = ok (.int (i * j)) := if_pos (.inl ⟨h1, h2⟩)
theorem v_mulR {i j : Int} (h1 : -(2 ^ 64) < j) (h2 : j < 2 ^ 64) : mulI (.int i) (.int j) = ok (.int (i * j)) := if_pos (.inr (.inl ⟨h1, h2⟩))
theorem v_mod {i j : Int} (h : 0 < j) : modI (.int i) (.int j) = ok (.int (i % j)) := if_pos h
theorem v_div {i j : Int} (h : divOk j) : divI (.int i) (.int j) = ok (.int (i / j)) := if_pos h
theorem v_pow {i j : Int} (h : powOk i j) : powI (.int i) (.int j) = ok (.int (i ^ j.toNat)) := if_pos h
theorem v_lt (i j : Int) : ltI (.int i) (.int j) = ok (.bl (decide (i < j))) := rfl
theorem v_le (i j : Int) : leI (.int i) (.int j) = ok (.bl (decide (i ≤ j))) := rfl
theorem v_gt (i j : Int) : gtI (.int i) (.int j) = ok (.bl (decide (j < i))) := rfl
theorem v_ge (i j : Int) : geI (.int i) (.int j) = ok (.bl (decide (j ≤ i))) := rfl
theorem v_is0 : isNon .non .non = ok (.bl true) := rfl
theorem v_is1 (i : Int) : isNon (.int i) .non = ok (.bl false) := rfl
theorem v_eqI (i j : Int) : eqD (.int i) (.int j) = ok (.bl (decide (i = j))) := by
  unfold eqD
  simp only [D.plain, D.py, SeqAt.shaped, Bool.and_self, if_true]
  congr
theorem v_neI (i j : Int) : neD (.int i) (.int j) = ok (.bl (!decide (i = j))) := by
  unfold neD
  simp only [D.plain, D.py, SeqAt.shaped, Bool.and_self, if_true]
  congr
theorem v_isII (i : Int) : isD "int" (.int i) = ok (.bl true) := rfl
theorem v_isBI (i : Int) : isD "bool" (.int i) = ok (.bl false) := by
  have h : kitB "int" "bool" = some false := by decide +kernel
  unfold isD tyD
  simp only [h]
/-- (no rfl theorem: simp shall not fold it into a check by unfolding) -/
theorem bd_ok' {α β : Type} (a : α) (f : α → M β) : bd (ok a) f = f a := by
  have h : bd (ok a) f = f a := rfl
  exact h
theorem bd_some {α β : Type} (a : α) (f : α → M β) : bd (some (.ok a)) f = f a := rfl
/-- lists of ints -/
abbrev iD (ns : List Int) : List D := ns.map D.int
theorem plains_i : ∀ ns : List Int, D.plains (iD ns) = true
  | [] => rfl
  | n :: ns => by
    show (D.plain (.int n) && D.plains (iD ns)) = true
    rw [plains_i ns]
    rfl
theorem pys_i : ∀ ns : List Int, D.pys (iD ns) = ns.map PyData.int
  | [] => rfl
  | n :: ns => by
    show D.py (.int n) :: D.pys (iD ns) = _
    rw [pys_i ns]
    rfl
theorem v_neS (x y : Str) : neS (.str x) (.str y) = ok (.bl (!decide (x = y))) := rfl
theorem v_eqS (x y : Str) : eqS (.str x) (.str y) = ok (.bl (decide (x = y))) := rfl
theorem lay_i : ∀ ns : List Int, PyData.canLayAll0 (ns.map PyData.int) = true
  | [] => rfl
  | n :: ns => by
    show (PyData.canLay0 (.int n) && PyData.canLayAll0 (ns.map PyData.int)) = true
    rw [lay_i ns]
    rfl
theorem depth_i : ∀ ns : List Int, PyData.depthAll (ns.map PyData.int) = 0
  | [] => rfl
  | n :: ns => by
    show max (PyData.depth (.int n)) (PyData.depthAll (ns.map PyData.int)) = 0
    rw [depth_i ns]
    rfl
theorem shaped_i (ns : List Int) : SeqAt.shaped (.list (ns.map PyData.int)) = true := by
  unfold SeqAt.shaped
  rw [PyData.canLay0, lay_i, PyData.depth, depth_i]
  rfl
theorem any_i (k : Int) : ∀ ns : List Int, ((ns.map PyData.int).any fun z => PyData.eqv z (.int k)) = decide (k ∈ ns)
  | [] => rfl
  | n :: ns => by
    rw [List.map_cons, List.any_cons, any_i k ns]
    show ((n == k) || decide (k ∈ ns)) = _
    by_cases h : n = k
    · subst h
      simp
    · have h2 : ¬ k = n := fun e => h e.symm
      have h3 : (n == k) = false := beq_false_of_ne h
      rw [h3]
      simp [h2]
/-- k in a list of ints -/
theorem v_inL (k : Int) (ns : List Int) : inD (.int k) (.lst (iD ns)) = ok (.bl (decide (k ∈ ns))) := by
  unfold inD
  dsimp only
  rw [plains_i, pys_i, shaped_i, D.py, any_i]
  rfl
theorem v_ninL (k : Int) (ns : List Int) : ninD (.int k) (.lst (iD ns)) = ok (.bl (!decide (k ∈ ns))) := by
  unfold ninD
  dsimp only
  rw [plains_i, pys_i, shaped_i, D.py, any_i]
  rfl
theorem v_eqT2 (a b c d : Int) : eqD (.tup [.int a, .int b]) (.tup [.int c, .int d]) = ok (.bl (decide (a = c ∧ b = d))) := by
  unfold eqD
  simp only [D.plain, D.plains, D.py, D.pys, SeqAt.shaped, PyData.canLay0, PyData.canLayAll0, PyData.depth, PyData.depthAll, Bool.and_self, if_true, PyData.eqv, PyData.eqvAll, Bool.and_true]
  show ok (D.bl ((a == c) && (b == d))) = _
  congr 2
  rw [Bool.eq_iff_iff]
  simp
/-- pairs of ints -/
abbrev pD (ps : List (Int × Int)) : List D := ps.map fun p => D.tup [.int p.1, .int p.2]
abbrev pY (ps : List (Int × Int)) : List PyData := ps.map fun p => PyData.tuple [.int p.1, .int p.2]
theorem plains_p : ∀ ps : List (Int × Int), D.plains (pD ps) = true
  | [] => rfl
  | p :: ps => by
    show (D.plain (.tup [.int p.1, .int p.2]) && D.plains (pD ps)) = true
    rw [plains_p ps]
    rfl
theorem pys_p : ∀ ps : List (Int × Int), D.pys (pD ps) = pY ps
  | [] => rfl
  | p :: ps => by
    show D.py (.tup [.int p.1, .int p.2]) :: D.pys (pD ps) = _
    rw [pys_p ps]
    rfl
theorem lay_p : ∀ ps : List (Int × Int), PyData.canLayAll0 (pY ps) = true
  | [] => rfl
  | p :: ps => by
    show (PyData.canLay0 (.tuple [.int p.1, .int p.2]) && PyData.canLayAll0 (pY ps)) = true
    rw [lay_p ps]
    rfl
theorem depth_p : ∀ ps : List (Int × Int), PyData.depthAll (pY ps) ≤ 1
  | [] => by decide
  | p :: ps => by
    show max (PyData.depth (.tuple [.int p.1, .int p.2])) (PyData.depthAll (pY ps)) ≤ 1
    exact Nat.max_le.mpr ⟨Nat.le_refl 1, depth_p ps⟩
theorem shaped_p (ps : List (Int × Int)) : SeqAt.shaped (.list (pY ps)) = true := by
  unfold SeqAt.shaped
  rw [PyData.canLay0, lay_p, PyData.depth]
  have := depth_p ps
  exact Bool.and_eq_true_iff.mpr ⟨rfl, decide_eq_true (by omega)⟩
theorem any_p (k : Int × Int) : ∀ ps : List (Int × Int), ((pY ps).any fun z => PyData.eqv z (.tuple [.int k.1, .int k.2])) = decide (k ∈ ps)
  | [] => rfl
  | p :: ps => by
    show (PyData.eqv (.tuple [.int p.1, .int p.2]) (.tuple [.int k.1, .int k.2]) || (pY ps).any fun z => PyData.eqv z (.tuple [.int k.1, .int k.2])) = _
    rw [any_p k ps]
    show (((p.1 == k.1) && ((p.2 == k.2) && true)) || decide (k ∈ ps)) = _
    rw [Bool.and_true, Bool.eq_iff_iff]
    obtain ⟨a, b⟩ := p
    obtain ⟨c, d⟩ := k
    simp
    constructor
    · rintro (⟨rfl, rfl⟩ | h)
      · exact .inl ⟨rfl, rfl⟩
      · exact .inr h
    · rintro (⟨rfl, rfl⟩ | h)
      · exact .inl ⟨rfl, rfl⟩
      · exact .inr h
theorem v_inP (k : Int × Int) (ps : List (Int × Int)) : inD (.tup [.int k.1, .int k.2]) (.lst (pD ps)) = ok (.bl (decide (k ∈ ps))) := by
  unfold inD
  dsimp only
  rw [plains_p, pys_p, shaped_p]
  show (if true then ok (D.bl ((pY ps).any fun z => PyData.eqv z (.tuple [.int k.1, .int k.2]))) else none) = _
  rw [any_p]
  rfl
theorem eqvAll_p : ∀ ps qs : List (Int × Int), PyData.eqvAll (pY ps) (pY qs) = decide (ps = qs)
  | [], [] => rfl
  | [], _ :: _ => rfl
  | _ :: _, [] => rfl
  | p :: ps, q :: qs => by
    show (((p.1 == q.1) && ((p.2 == q.2) && true)) && PyData.eqvAll (pY ps) (pY qs)) = _
    rw [eqvAll_p ps qs, Bool.and_true, Bool.eq_iff_iff]
    obtain ⟨a, b⟩ := p
    obtain ⟨c, d⟩ := q
    simp [and_assoc]
theorem v_eqP (ps qs : List (Int × Int)) : eqD (.lst (pD ps)) (.lst (pD qs)) = ok (.bl (decide (ps = qs))) := by
  unfold eqD
  rw [D.plain, D.plain, plains_p, plains_p, D.py, D.py, pys_p, pys_p, shaped_p, shaped_p, PyData.eqv, eqvAll_p]
  rfl
theorem eqvAll_i : ∀ ps qs : List Int, PyData.eqvAll (ps.map PyData.int) (qs.map PyData.int) = decide (ps = qs)
  | [], [] => rfl
  | [], _ :: _ => rfl
  | _ :: _, [] => rfl
  | p :: ps, q :: qs => by
    show ((p == q) && PyData.eqvAll (ps.map PyData.int) (qs.map PyData.int)) = _
    rw [eqvAll_i ps qs, Bool.eq_iff_iff]
    simp
theorem v_eqL (ps qs : List Int) : eqD (.lst (iD ps)) (.lst (iD qs)) = ok (.bl (decide (ps = qs))) := by
  unfold eqD
  rw [D.plain, D.plain, plains_i, plains_i, D.py, D.py, pys_i, pys_i, shaped_i, shaped_i, PyData.eqv, eqvAll_i]
  rfl
theorem v_neL (ps qs : List Int) : neD (.lst (iD ps)) (.lst (iD qs)) = ok (.bl (!decide (ps = qs))) := by
  unfold neD
  rw [D.plain, D.plain, plains_i, plains_i, D.py, D.py, pys_i, pys_i, shaped_i, shaped_i, PyData.eqv, eqvAll_i]
  rfl
/-! ### texts of pairs of ints -/
theorem show_p : ∀ ps : List (Int × Int), (∀ p ∈ ps, p.1.natAbs.log2 < 1920 ∧ p.2.natAbs.log2 < 1920) → PyData.showableAll (pY ps) = true ∧ PyData.leavesShortAll 1921 (pY ps) = true
  | [], _ => ⟨rfl, rfl⟩
  | p :: ps, h => by
    obtain ⟨h1, h2⟩ := show_p ps fun q hq => h q (List.mem_cons_of_mem _ hq)
    obtain ⟨h3, h4⟩ := h p (List.mem_cons_self ..)
    have s1 : decide ((PyData.shown (.int p.1)).length ≤ 1921) = true := decide_eq_true (by rw [PyData.shown]; exact PyProof.Rows.int_text_len_1921 h3)
    have s2 : decide ((PyData.shown (.int p.2)).length ≤ 1921) = true := decide_eq_true (by rw [PyData.shown]; exact PyProof.Rows.int_text_len_1921 h4)
    constructor
    · show (((decide (p.1.natAbs.log2 < 1920)) && ((decide (p.2.natAbs.log2 < 1920)) && true)) && PyData.showableAll (pY ps)) = true
      rw [decide_eq_true h3, decide_eq_true h4, h1]
      rfl
    · show ((decide ((PyData.shown (.int p.1)).length ≤ 1921) && (decide ((PyData.shown (.int p.2)).length ≤ 1921) && true)) && PyData.leavesShortAll 1921 (pY ps)) = true
      rw [s1, s2, h2]
      rfl
theorem weight_p : ∀ ps : List (Int × Int), (∀ p ∈ ps, p.1.natAbs.log2 < 1920 ∧ p.2.natAbs.log2 < 1920) → PyData.weightAll (pY ps) ≤ 4000 * ps.length
  | [], _ => Nat.le_refl _
  | p :: ps, h => by
    have h2 := weight_p ps fun q hq => h q (List.mem_cons_of_mem _ hq)
    obtain ⟨h3, h4⟩ := h p (List.mem_cons_self ..)
    have w1 : PyData.weight (.int p.1) ≤ 1920 := by
      rw [PyData.weight]
      split <;> omega
    have w2 : PyData.weight (.int p.2) ≤ 1920 := by
      rw [PyData.weight]
      split <;> omega
    show (PyData.weight (.int p.1) + 1 + (PyData.weight (.int p.2) + 1 + 0)) + 1 + PyData.weightAll (pY ps) ≤ _
    rw [List.length_cons]
    omega
theorem v_reprP (ps : List (Int × Int)) (h : ∀ p ∈ ps, p.1.natAbs.log2 < 1920 ∧ p.2.natAbs.log2 < 1920) (hl : ps.length ≤ 2) : reprN [.lst (pD ps)] = ok (.str (D.py (.lst (pD ps))).shown) := by
  obtain ⟨h1, h2⟩ := show_p ps h
  have h3 := weight_p ps h
  have h4 := depth_p ps
  have h5 := PyData.shown_le 1921 (by decide) (.list (pY ps)) h2
  rw [PyData.weight] at h5
  have h6 : (1921 + 2) * PyData.weightAll (pY ps) ≤ 1923 * 8000 := Nat.mul_le_mul (by omega) (by omega)
  unfold reprN
  dsimp only
  rw [if_pos]
  rw [D.py, pys_p]
  refine ⟨plains_p ps, h1, ?_, ?_⟩
  · rw [PyData.depth]
    omega
  · show _ ≤ 2 ^ 24
    omega
/-! ### loops -/
theorem while_end {c : S → M (Bool × S)} {F : S → M Out} {s s1 : S} (h : c s = ok (false, s1)) : sWhile c F s = ok (.nx s1) := by
  refine sWhile_of (n := 1) ?_
  rw [whileN, h, bd_ok']
  rfl
theorem while_step {c : S → M (Bool × S)} {F : S → M Out} {s s1 s2 : S} {o : Out} (h : c s = ok (true, s1)) (h2 : F s1 = ok (.nx s2)) (h3 : sWhile c F s2 = ok o) : sWhile c F s = ok o := by
  rcases of_sWhile h3 with e | ⟨n, o2, e, hn⟩
  · cases e
  · cases e
    refine sWhile_of (n := n + 1) ?_
    rw [whileN, h, bd_ok']
    show bd (F s1) _ = _
    rw [h2, bd_ok']
    exact hn
theorem while_go {c : S → M (Bool × S)} {F : S → M Out} {s s2 : S} {o : Out} (h : c s = ok (true, s)) (h2 : F s = ok (.nx s2)) (h3 : sWhile c F s2 = ok o) : sWhile c F s = ok o := while_step h h2 h3
theorem while_stop {c : S → M (Bool × S)} {F : S → M Out} {s : S} (h : c s = ok (false, s)) : sWhile c F s = ok (.nx s) := while_end h
theorem forL_nil {T : D → S → M S} {F : S → M Out} {s : S} : forL T F [] s = ok (.nx s) := rfl
theorem forL_cons {T : D → S → M S} {F : S → M Out} {d : D} {ds : List D} {s s1 s2 : S} (h1 : T d s = ok s1) (h2 : F s1 = ok (.nx s2)) : forL T F (d :: ds) s = forL T F ds s2 := by
  rw [forL, h1, bd_ok', h2, bd_ok']
/-- a loop by an invariant -/
theorem forL_inv {T : D → S → M S} {F : S → M Out} (P : Nat → S → Prop) : ∀ (ds : List D) (k : Nat) (s : S), P k s → (∀ i d s, ds[i]? = some d → P (k + i) s → ∃ s1 s2, T d s = ok s1 ∧ F s1 = ok (.nx s2) ∧ P (k + i + 1) s2) → ∃ s', forL T F ds s = ok (.nx s') ∧ P (k + ds.length) s'
  | [], k, s, h, _ => ⟨s, rfl, h⟩
  | d :: ds, k, s, h, step => by
    obtain ⟨s1, s2, h1, h2, h3⟩ := step 0 d s rfl h
    obtain ⟨s', e, p⟩ := forL_inv P ds (k + 1) s2 h3 fun i d' s' e q => by
      have := step (i + 1) d' s' (by simpa using e) (by rw [show k + (i + 1) = k + 1 + i by omega]; exact q)
      rw [show k + (i + 1) + 1 = k + 1 + i + 1 by omega] at this
      exact this
    refine ⟨s', by rw [forL_cons h1 h2]; exact e, ?_⟩
    rw [List.length_cons, show k + (ds.length + 1) = k + 1 + ds.length by omega]
    exact p
/-- a comprehension whose turns find the same state -/
theorem compL_map {vs : List Nat} {T : D → S → M S} {ft : S → M (Bool × S)} {fe : S → M (D × S)} (s0 : S) (g : D → Option D) : ∀ ds : List D,
    (∀ d ∈ ds, (g d = none ∧ ∃ s1 s2, T d s0 = ok s1 ∧ ft s1 = ok (false, s2) ∧ wipeS s2 vs = s0) ∨ ∃ y s1 s2 s3, g d = some y ∧ T d s0 = ok s1 ∧ ft s1 = ok (true, s2) ∧ fe s2 = ok (y, s3) ∧ wipeS s3 vs = s0) → compL vs T ft fe ds s0 = ok (ds.filterMap g, s0)
  | [], _ => rfl
  | d :: ds, h => by
    have ih := compL_map s0 g ds fun d' hd => h d' (List.mem_cons_of_mem _ hd)
    rcases h d (List.mem_cons_self ..) with ⟨e, s1, s2, h1, h2, h3⟩ | ⟨y, s1, s2, s3, e, h1, h2, h3, h4⟩
    · rw [compL, h1, bd_ok', h2, bd_ok', List.filterMap_cons, e]
      show compL vs T ft fe ds (wipeS s2 vs) = _
      rw [h3]
      exact ih
    · rw [compL, h1, bd_ok', h2, bd_ok', List.filterMap_cons, e]
      show bd (fe s2) _ = _
      rw [h3, bd_ok']
      show bd (compL vs T ft fe ds (wipeS s3 vs)) _ = _
      rw [h4, ih]
      rfl
end Dt
noncomputable section
namespace Tf
open PySem PySem.Spec PyProof.Rows L2 Dt
def top (i : Nat) : Stmt := PySem.Challenge.pw_triplefree_k04_whole_gaps_sums_mirrors.main.body.getD i (.Pass ⟨0, 0, 0, 0⟩)
def dd (x : Str) (i : Nat) (dfl : List He.Dv) (kwd : List (Str × He.Dv)) : He.DefD := ⟨(x, none), x, x, defArgs (top i), defBody (top i), defScope (top i), dfl, kwd⟩
def fn : List He.DefD := [dd "is_integer" 5 [] [("low", .non), ("high", .non)],
  dd "check_number" 6 [.int 0, .non] [],
  dd "digits_in" 7 [] [],
  dd "number_of" 8 [] [],
  dd "are_plain" 9 [] [],
  dd "power_of" 10 [] [],
  dd "member_at" 11 [] [],
  dd "rank_of" 12 [] [],
  dd "is_plain_number" 13 [] [],
  dd "base_member" 14 [] [],
  dd "base_rank" 15 [] [],
  dd "base_gap" 16 [] [],
  dd "base_sum" 17 [] [],
  dd "mirror" 18 [] [],
  dd "_law_mixed" 20 [] [],
  dd "_law_stream" 21 [] [],
  dd "_law_draw" 22 [] [],
  dd "_law_number" 23 [] [],
  dd "_law_digits" 24 [] [],
  dd "_law_gap_right" 25 [] [],
  dd "_law_sum_right" 26 [] [],
  dd "_law_mirror_right" 27 [] [],
  dd "_law_added_right" 28 [] [],
  dd "law" 29 [] []]
def frees : List Str := ["isinstance", "bool", "int", "divmod", "range", "len", "max", "repr", "list", "zip", "sum", "enumerate"]
def csts : List (Str × Int) := [("MOST_POWER", 2000)]
def fa : List He.Fa := (fn.map fun d => .glo d.name) ++ (frees.map .free ++ csts.map fun c => .int c.1 c.2)
abbrev R : PySem.W.OpenRow := PySem.W.OpenLaw.row PySem.Challenge.rw_triplefree_k04_whole_gaps_sums_mirrors
abbrev hk
      : PySem.W.Hook := He.hookD 4 fa fn
def ob (s
      : PySem.W.SharedT) : He.AlD := He.obsDG 4 fa fn (HandSHeadRun.getT s)
theorem ob_eq (s
      : PySem.W.SharedT) : ob s = hk.obs s.abs := He.obsDG_eq (HandSHeadRun.getT_eq s)
def loose : List PySem.Str := ["SetError", "InvalidNumber", "MOST_POWER", "is_integer", "check_number", "digits_in", "number_of", "are_plain", "power_of", "member_at", "rank_of", "is_plain_number", "base_member", "base_rank", "base_gap", "base_sum", "mirror", "_law_mixed", "_law_stream", "_law_draw", "_law_number", "_law_digits", "_law_gap_right", "_law_sum_right", "_law_mirror_right", "_law_added_right"]
theorem run (w : World) : HandSHeadRun.RunEq R (PySem.W.view R.prog [29]) hk ob 4000 loose w := by
  intro os
  kernel_rfl
structure Ctx (K : PySem.W.Frag) (mg : Str → Option Value) : Prop where
  says : He.SaysD fa fn K
  glo : ∀ (i : Nat) {d : He.DefD}, fn[i]? = some d → mg d.name = some (.ref (He.ga K d.name))
  fre : ∀ x : Str, x ∈ frees → mg x = none
  cst : ∀ c : Str × Int, c ∈ csts → ∃ t, mg c.1 = some (.int c.2 t)
theorem ctx_of {K : PySem.W.Frag} {h : Heap} {mg : Str → Option Value} (X : K.In h) (G : h.Ns mainGlobals mg) (c : He.SaysD fa fn K) : Ctx K mg := by
  refine ⟨c, fun i d e => ?_, fun x hx => ?_, fun x hx => ?_⟩
  · refine He.glo_ok X G (c.fact i ?_)
    have hi : i < fn.length := (List.getElem?_eq_some_iff.mp e).1
    unfold fa
    rw [List.getElem?_append_left (by simpa using hi), List.getElem?_map, e]
    rfl
  · obtain ⟨j, hj⟩ := List.getElem?_of_mem hx
    refine He.free_ok X G (c.fact (fn.length + j) ?_)
    unfold fa
    have hl : j < frees.length := (List.getElem?_eq_some_iff.mp hj).1
    rw [List.getElem?_append_right (by simp), List.length_map, Nat.add_sub_cancel_left, List.getElem?_append_left (by simpa using hl), List.getElem?_map, hj]
    rfl
  · obtain ⟨j, hj⟩ := List.getElem?_of_mem hx
    refine He.int_ok X G (c.fact (fn.length + (frees.length + j)) ?_)
    unfold fa
    rw [List.getElem?_append_right (by simp), List.length_map, Nat.add_sub_cancel_left, List.getElem?_append_right (by simp), List.length_map, Nat.add_sub_cancel_left, List.getElem?_map, hj]
    rfl
def cl0 : Cl := fun _ => none
/-! is_integer -/
def b_is_integer : S → M Out := (sSeq (sIf (dOr (dNot (dTst (dIsi "int" (dVar 0)))) (dTst (dIsi "bool" (dVar 0))))
    (sRet (dC (.bl false)))
    sNil)
    (sRet (vAnd (vOr (dBin isNon (dVar 1) (dC .non)) (dBin leI (dVar 1) (dVar 0))) (vOr (dBin isNon (dVar 2) (dC .non)) (dBin leI (dVar 0) (dVar 2))))))
def f_is_integer : FnD := runP 3 b_is_integer
theorem sc_is_integer : FnScope ["value", "low", "high"] ["value", "low", "high"] (defScope (top 5)) := ⟨rfl, rfl, rfl, by decide +kernel, rfl, by decide +kernel, by decide +kernel⟩
abbrev D_is_integer (K : PySem.W.Frag) (fd : FuncData) : Prop := FunD K "is_integer" "is_integer" (defArgs (top 5)) (defBody (top 5)) (defScope (top 5)) [] [("low", V.non), ("high", V.non)] (He.ga K "is_integer") fd
theorem ok_is_integer {P : Program} {w : World} {K : PySem.W.Frag} {mg : Str → Option Value} {base : Heap} (Z : Ctx K mg) {fd : FuncData} (F : D_is_integer K fd) : FnG P w K mg base CX0 1 (He.ga K "is_integer") fd ["value", "low", "high"] (spP K cl0 3 f_is_integer) := by
  have fr_isinstance : mg "isinstance" = none := Z.fre "isinstance" (by decide)
  have fr_bool : mg "bool" = none := Z.fre "bool" (by decide)
  have fr_int : mg "int" = none := Z.fre "int" (by decide)
  have sc := sc_is_integer
  refine okP F sc rfl rfl (F := b_is_integer) fun cdv A outer s H E hg hr => ?_
  exact ⟨_, (s_cons (s_if (d_or (d_not (d_tst (d_isi (d_var 0) fr_isinstance fr_int rfl rfl))) (d_or1 (d_tst (d_isi (d_var 0) fr_isinstance fr_bool rfl rfl)))).pt
    (s_one (s_ret d_bl))
    s_nil)
    (s_one (s_ret (d_vand (d_vor (d_cmp k_is (d_var 1) d_non) (d_vone (d_cmp k_le (d_var 1) (d_var 0)))) (d_vone (d_vor (d_cmp k_is (d_var 2) d_non) (d_vone (d_cmp k_le (d_var 0) (d_var 2)))))))))⟩
/-! digits_in -/
def b_digits_in : S → M Out := (sSeq (sOwn 2 (dLst aNil))
    (sSeq (sWhile (dTst (dBin gtI (dVar 0) (dC (.int 0))))
    (sSeq (sAsg (dCall divmodN (aCons (dVar 0) (aCons (dVar 1) aNil))) (gTp (gsCons (gNm 0) (gsCons (gNm 3) gsNil))))
    (sApp 2 (dVar 3))))
    (sPub 2 (sRet (dRev (dVar 2))))))
def f_digits_in : FnD := runP 4 b_digits_in
theorem sc_digits_in : FnScope ["number", "radix", "found", "digit"] ["number", "radix"] (defScope (top 7)) := ⟨rfl, rfl, rfl, by decide +kernel, rfl, by decide +kernel, by decide +kernel⟩
abbrev D_digits_in (K : PySem.W.Frag) (fd : FuncData) : Prop := FunD K "digits_in" "digits_in" (defArgs (top 7)) (defBody (top 7)) (defScope (top 7)) [] [] (He.ga K "digits_in") fd
theorem ok_digits_in {P : Program} {w : World} {K : PySem.W.Frag} {mg : Str → Option Value} {base : Heap} (Z : Ctx K mg) {fd : FuncData} (F : D_digits_in K fd) : FnG P w K mg base CX0 1 (He.ga K "digits_in") fd ["number", "radix"] (spP K cl0 2 f_digits_in) := by
  have fr_divmod : mg "divmod" = none := Z.fre "divmod" (by decide)
  have sc := sc_digits_in
  refine okP F sc rfl rfl (F := b_digits_in) fun cdv A outer s H E hg hr => ?_
  exact ⟨_, (s_cons (s_own 2 sc.nd (f_lst d_nil))
    (s_cons (s_while PassesOwn.never (d_tcmp k_gt (d_var 0) d_int)
    (s_cons (s_asg (d_callB c_divmod fr_divmod rfl (d_cons (d_var 0) (d_cons (d_var 1) d_nil))) (g_tup rfl (gs_cons (g_name 0 sc.nd) (gs_cons (g_name 3 sc.nd) gs_nil)) 2 (gsl_cons (gsl_cons gsl_nil))))
    (s_one (s_app 2 (d_var 3)))))
    (s_pub 2 (s_one (s_ret (d_of (f_rev (d_var 2))))))))⟩
/-! number_of -/
def b_number_of : S → M Out := (sSeq (sSet 2 (dC (.int 0)))
    (sSeq (sFor (iLst (dVar 0)) (gNm 3)
    (sSet 2 (dBin addI (dBin mulI (dVar 2) (dVar 1)) (dVar 3))))
    (sRet (dVar 2))))
def f_number_of : FnD := runP 4 b_number_of
theorem sc_number_of : FnScope ["digits", "radix", "found", "digit"] ["digits", "radix"] (defScope (top 8)) := ⟨rfl, rfl, rfl, by decide +kernel, rfl, by decide +kernel, by decide +kernel⟩
abbrev D_number_of (K : PySem.W.Frag) (fd : FuncData) : Prop := FunD K "number_of" "number_of" (defArgs (top 8)) (defBody (top 8)) (defScope (top 8)) [] [] (He.ga K "number_of") fd
theorem ok_number_of {P : Program} {w : World} {K : PySem.W.Frag} {mg : Str → Option Value} {base : Heap} (Z : Ctx K mg) {fd : FuncData} (F : D_number_of K fd) : FnG P w K mg base CX0 1 (He.ga K "number_of") fd ["digits", "radix"] (spP K cl0 2 f_number_of) := by
  have sc := sc_number_of
  refine okP F sc rfl rfl (F := b_number_of) fun cdv A outer s H E hg hr => ?_
  exact ⟨_, (s_cons (s_set 2 sc.nd d_int)
    (s_cons (s_for PassesOwn.never (w_list (d_var 0)) (g_name 3 sc.nd)
    (s_one (s_set 2 sc.nd (d_op k_add (d_op k_mul (d_var 2) (d_var 1)) (d_var 3)))))
    (s_one (s_ret (d_var 2)))))⟩
/-! are_plain -/
def b_are_plain : S → M Out := (sRet (dBin ninD (dC (.int 2)) (dVar 0)))
def f_are_plain : FnD := runP 1 b_are_plain
theorem sc_are_plain : FnScope ["digits"] ["digits"] (defScope (top 9)) := ⟨rfl, rfl, rfl, by decide +kernel, rfl, by decide +kernel, by decide +kernel⟩
abbrev D_are_plain (K : PySem.W.Frag) (fd : FuncData) : Prop := FunD K "are_plain" "are_plain" (defArgs (top 9)) (defBody (top 9)) (defScope (top 9)) [] [] (He.ga K "are_plain") fd
theorem ok_are_plain {P : Program} {w : World} {K : PySem.W.Frag} {mg : Str → Option Value} {base : Heap} (Z : Ctx K mg) {fd : FuncData} (F : D_are_plain K fd) : FnG P w K mg base CX0 1 (He.ga K "are_plain") fd ["digits"] (spP K cl0 1 f_are_plain) := by
  have sc := sc_are_plain
  refine okP F sc rfl rfl (F := b_are_plain) fun cdv A outer s H E hg hr => ?_
  exact ⟨_, (s_one (s_ret (d_cmp (k_ninD (u65 hr)) d_int (d_var 0))))⟩
/-! power_of -/
def b_power_of : S → M Out := (sSeq (sSet 2 (dC (.int 1)))
    (sSeq (sFor (iR1 (aCons (dVar 1) aNil)) (gNm 3)
    (sSet 2 (dBin mulI (dVar 2) (dVar 0))))
    (sRet (dVar 2))))
def f_power_of : FnD := runP 4 b_power_of
theorem sc_power_of : FnScope ["radix", "exponent", "found", "turn"] ["radix", "exponent"] (defScope (top 10)) := ⟨rfl, rfl, rfl, by decide +kernel, rfl, by decide +kernel, by decide +kernel⟩
abbrev D_power_of (K : PySem.W.Frag) (fd : FuncData) : Prop := FunD K "power_of" "power_of" (defArgs (top 10)) (defBody (top 10)) (defScope (top 10)) [] [] (He.ga K "power_of") fd
theorem ok_power_of {P : Program} {w : World} {K : PySem.W.Frag} {mg : Str → Option Value} {base : Heap} (Z : Ctx K mg) {fd : FuncData} (F : D_power_of K fd) : FnG P w K mg base CX0 1 (He.ga K "power_of") fd ["radix", "exponent"] (spP K cl0 2 f_power_of) := by
  have fr_range : mg "range" = none := Z.fre "range" (by decide)
  have sc := sc_power_of
  refine okP F sc rfl rfl (F := b_power_of) fun cdv A outer s H E hg hr => ?_
  exact ⟨_, (s_cons (s_set 2 sc.nd d_int)
    (s_cons (s_for PassesOwn.never (w_range1 fr_range (d_cons (d_var 1) d_nil)) (g_name 3 sc.nd)
    (s_one (s_set 2 sc.nd (d_op k_mul (d_var 2) (d_var 0)))))
    (s_one (s_ret (d_var 2)))))⟩
/-! _law_mixed -/
def b__law_mixed : S → M Out := (sSeq (sSet 0 (dBin modI (dBin mulI (dBin addI (dBin addI (dBin modI (dVar 0) (dC (.int 2147483647))) (dBin mulI (dBin mulI (dC (.int 7919)) (dVar 1)) (dVar 1))) (dBin mulI (dC (.int 31)) (dVar 1))) (dC (.int 48271))) (dC (.int 2147483647))))
    (sRet (dBin modI (dBin mulI (dVar 0) (dBin addI (dC (.int 69621)) (dBin mulI (dC (.int 2)) (dVar 1)))) (dC (.int 2147483629)))))
def f__law_mixed : FnD := runP 2 b__law_mixed
theorem sc__law_mixed : FnScope ["_law_amount", "_law_k"] ["_law_amount", "_law_k"] (defScope (top 20)) := ⟨rfl, rfl, rfl, by decide +kernel, rfl, by decide +kernel, by decide +kernel⟩
abbrev D__law_mixed (K : PySem.W.Frag) (fd : FuncData) : Prop := FunD K "_law_mixed" "_law_mixed" (defArgs (top 20)) (defBody (top 20)) (defScope (top 20)) [] [] (He.ga K "_law_mixed") fd
theorem ok__law_mixed {P : Program} {w : World} {K : PySem.W.Frag} {mg : Str → Option Value} {base : Heap} (Z : Ctx K mg) {fd : FuncData} (F : D__law_mixed K fd) : FnG P w K mg base CX0 1 (He.ga K "_law_mixed") fd ["_law_amount", "_law_k"] (spP K cl0 2 f__law_mixed) := by
  have sc := sc__law_mixed
  refine okP F sc rfl rfl (F := b__law_mixed) fun cdv A outer s H E hg hr => ?_
  exact ⟨_, (s_cons (s_set 0 sc.nd (d_op k_mod (d_op k_mul (d_op k_add (d_op k_add (d_op k_mod (d_var 0) d_int) (d_op k_mul (d_op k_mul d_int (d_var 1)) (d_var 1))) (d_op k_mul d_int (d_var 1))) d_int) d_int))
    (s_one (s_ret (d_op k_mod (d_op k_mul (d_var 0) (d_op k_add d_int (d_op k_mul d_int (d_var 1)))) d_int))))⟩
/-! _law_digits -/
def b__law_digits : S → M Out := (sSeq (sOwn 2 (dLst aNil))
    (sSeq (sWhile (dTst (dBin gtI (dVar 0) (dC (.int 0))))
    (sSeq (sApp 2 (dBin modI (dVar 0) (dVar 1)))
    (sSet 0 (dBin divI (dVar 0) (dVar 1)))))
    (sPub 2 (sRet (dVar 2)))))
def f__law_digits : FnD := runP 3 b__law_digits
theorem sc__law_digits : FnScope ["_law_given", "_law_radix", "_law_found"] ["_law_given", "_law_radix"] (defScope (top 24)) := ⟨rfl, rfl, rfl, by decide +kernel, rfl, by decide +kernel, by decide +kernel⟩
abbrev D__law_digits (K : PySem.W.Frag) (fd : FuncData) : Prop := FunD K "_law_digits" "_law_digits" (defArgs (top 24)) (defBody (top 24)) (defScope (top 24)) [] [] (He.ga K "_law_digits") fd
theorem ok__law_digits {P : Program} {w : World} {K : PySem.W.Frag} {mg : Str → Option Value} {base : Heap} (Z : Ctx K mg) {fd : FuncData} (F : D__law_digits K fd) : FnG P w K mg base CX0 1 (He.ga K "_law_digits") fd ["_law_given", "_law_radix"] (spP K cl0 2 f__law_digits) := by
  have sc := sc__law_digits
  refine okP F sc rfl rfl (F := b__law_digits) fun cdv A outer s H E hg hr => ?_
  exact ⟨_, (s_cons (s_own 2 sc.nd (f_lst d_nil))
    (s_cons (s_while PassesOwn.never (d_tcmp k_gt (d_var 0) d_int)
    (s_cons (s_app 2 (d_op k_mod (d_var 0) (d_var 1)))
    (s_one (s_set 0 sc.nd (d_op k_div (d_var 0) (d_var 1))))))
    (s_pub 2 (s_one (s_ret (d_var 2))))))⟩
/-! check_number -/
def b_check_number : S → M Out := (sIf (dNot (dTst (dCallK 3 1 2 f_is_integer (fun as bs => as ++ bs) (aCons (dVar 0) aNil) (aCons (dVar 1) (aCons (dVar 2) aNil)))))
    sNever
    sNil)
def f_check_number : FnD := runP 3 b_check_number
theorem sc_check_number : FnScope ["value", "low", "high"] ["value", "low", "high"] (defScope (top 6)) := ⟨rfl, rfl, rfl, by decide +kernel, rfl, by decide +kernel, by decide +kernel⟩
abbrev D_check_number (K : PySem.W.Frag) (fd : FuncData) : Prop := FunD K "check_number" "check_number" (defArgs (top 6)) (defBody (top 6)) (defScope (top 6)) [(V.int 0), V.non] [] (He.ga K "check_number") fd
theorem ok_check_number {P : Program} {w : World} {K : PySem.W.Frag} {mg : Str → Option Value} {base : Heap} (Z : Ctx K mg) {fd : FuncData} (F : D_check_number K fd) : FnG P w K mg base CX0 2 (He.ga K "check_number") fd ["value", "low", "high"] (spP K cl0 3 f_check_number) := by
  obtain ⟨fd_is_integer, F_is_integer⟩ : ∃ fd, D_is_integer K fd := Z.says.def_ 0 (d := (dd "is_integer" 5 [] [("low", .non), ("high", .non)])) rfl
  have G_is_integer : FnG P w K mg base CX0 1 _ fd_is_integer ["value", "low", "high"] _ := ok_is_integer Z F_is_integer
  have m_is_integer : mg "is_integer" = some (.ref (He.ga K "is_integer")) := Z.glo 0 rfl
  obtain ⟨mvb_is_integer_1_low_high, b_is_integer_1_low_high⟩ := F_is_integer.kbinds0 1 ["low", "high"] [] (ps := ["value", "low", "high"]) (fun as _ bs => as ++ bs) (by decide) (fun _ h => by cases h) (fun a _ b => a.append b) fun _ _ _ _ _ _ us mv ws h1 h0 h2 => match us, mv, ws, h1, h0, h2 with | [_], [], [_, _], _, _, _ => rfl
  have sc := sc_check_number
  refine okP F sc rfl rfl (F := b_check_number) fun cdv A outer s H E hg hr => ?_
  exact ⟨_, (s_one (s_if (d_not (d_tst (d_callK (ks := ["low", "high"]) (gD := (fun as bs => as ++ bs)) G_is_integer hg (hr.mono (by decide)) m_is_integer F_is_integer.kp b_is_integer_1_low_high (fun _ _ _ _ _ a b => a.append b) (d_cons (d_var 0) d_nil) (k_cons (d_var 1) (k_cons (d_var 2) k_nil)))))
    (s_one s_never)
    s_nil))⟩
/-! member_at -/
def b_member_at : S → M Out := (sRet (dCallU 2 f_number_of [] (aCons (dCallU 2 f_digits_in [] (aCons (dVar 0) (aCons (dC (.int 2)) aNil))) (aCons (dC (.int 3)) aNil))))
def f_member_at : FnD := runP 1 b_member_at
theorem sc_member_at : FnScope ["number"] ["number"] (defScope (top 11)) := ⟨rfl, rfl, rfl, by decide +kernel, rfl, by decide +kernel, by decide +kernel⟩
abbrev D_member_at (K : PySem.W.Frag) (fd : FuncData) : Prop := FunD K "member_at" "member_at" (defArgs (top 11)) (defBody (top 11)) (defScope (top 11)) [] [] (He.ga K "member_at") fd
theorem ok_member_at {P : Program} {w : World} {K : PySem.W.Frag} {mg : Str → Option Value} {base : Heap} (Z : Ctx K mg) {fd : FuncData} (F : D_member_at K fd) : FnG P w K mg base CX0 2 (He.ga K "member_at") fd ["number"] (spP K cl0 1 f_member_at) := by
  obtain ⟨fd_number_of, F_number_of⟩ : ∃ fd, D_number_of K fd := Z.says.def_ 3 (d := (dd "number_of" 8 [] [])) rfl
  have G_number_of : FnG P w K mg base CX0 1 _ fd_number_of ["digits", "radix"] _ := ok_number_of Z F_number_of
  have m_number_of : mg "number_of" = some (.ref (He.ga K "number_of")) := Z.glo 3 rfl
  obtain ⟨fd_digits_in, F_digits_in⟩ : ∃ fd, D_digits_in K fd := Z.says.def_ 2 (d := (dd "digits_in" 7 [] [])) rfl
  have G_digits_in : FnG P w K mg base CX0 1 _ fd_digits_in ["number", "radix"] _ := ok_digits_in Z F_digits_in
  have m_digits_in : mg "digits_in" = some (.ref (He.ga K "digits_in")) := Z.glo 2 rfl
  have b_number_of : Binds K fd_number_of ["digits", "radix"] [] := F_number_of.bindsN fun _ _ _ _ _ _ us hl => match us, hl with | [_, _], _ => rfl
  have b_digits_in : Binds K fd_digits_in ["number", "radix"] [] := F_digits_in.bindsN fun _ _ _ _ _ _ us hl => match us, hl with | [_, _], _ => rfl
  have sc := sc_member_at
  refine okP F sc rfl rfl (F := b_member_at) fun cdv A outer s H E hg hr => ?_
  exact ⟨_, (s_one (s_ret (d_call G_number_of hg (hr.mono (by decide)) m_number_of F_number_of.kp b_number_of .nil (fun _ => .nil) (d_cons (d_call G_digits_in hg (hr.mono (by decide)) m_digits_in F_digits_in.kp b_digits_in .nil (fun _ => .nil) (d_cons (d_var 0) (d_cons d_int d_nil))) (d_cons d_int d_nil)))))⟩
/-! rank_of -/
def b_rank_of : S → M Out := (sSeq (sSet 1 (dCallU 2 f_digits_in [] (aCons (dVar 0) (aCons (dC (.int 3)) aNil))))
    (sSeq (sIf (dTst (dCallU 1 f_are_plain [] (aCons (dVar 1) aNil)))
    (sRet (dCallU 2 f_number_of [] (aCons (dVar 1) (aCons (dC (.int 2)) aNil))))
    sNil)
    (sSeq (sSet 2 (dIdx (dVar 1) (dC (.int 2))))
    (sRet (dBin mulI (dBin addI (dCallU 2 f_number_of [] (aCons (dCutL (dVar 1) partNo (partAt (dVar 2))) (aCons (dC (.int 2)) aNil))) (dC (.int 1))) (dCallU 2 f_power_of [] (aCons (dC (.int 2)) (aCons (dBin subI (dCall lenN (aCons (dVar 1) aNil)) (dVar 2)) aNil))))))))
def f_rank_of : FnD := runP 3 b_rank_of
theorem sc_rank_of : FnScope ["x", "digits", "place"] ["x"] (defScope (top 12)) := ⟨rfl, rfl, rfl, by decide +kernel, rfl, by decide +kernel, by decide +kernel⟩
abbrev D_rank_of (K : PySem.W.Frag) (fd : FuncData) : Prop := FunD K "rank_of" "rank_of" (defArgs (top 12)) (defBody (top 12)) (defScope (top 12)) [] [] (He.ga K "rank_of") fd
theorem ok_rank_of {P : Program} {w : World} {K : PySem.W.Frag} {mg : Str → Option Value} {base : Heap} (Z : Ctx K mg) {fd : FuncData} (F : D_rank_of K fd) : FnG P w K mg base CX0 2 (He.ga K "rank_of") fd ["x"] (spP K cl0 1 f_rank_of) := by
  have fr_len : mg "len" = none := Z.fre "len" (by decide)
  obtain ⟨fd_digits_in, F_digits_in⟩ : ∃ fd, D_digits_in K fd := Z.says.def_ 2 (d := (dd "digits_in" 7 [] [])) rfl
  have G_digits_in : FnG P w K mg base CX0 1 _ fd_digits_in ["number", "radix"] _ := ok_digits_in Z F_digits_in
  have m_digits_in : mg "digits_in" = some (.ref (He.ga K "digits_in")) := Z.glo 2 rfl
  obtain ⟨fd_are_plain, F_are_plain⟩ : ∃ fd, D_are_plain K fd := Z.says.def_ 4 (d := (dd "are_plain" 9 [] [])) rfl
  have G_are_plain : FnG P w K mg base CX0 1 _ fd_are_plain ["digits"] _ := ok_are_plain Z F_are_plain
  have m_are_plain : mg "are_plain" = some (.ref (He.ga K "are_plain")) := Z.glo 4 rfl
  obtain ⟨fd_number_of, F_number_of⟩ : ∃ fd, D_number_of K fd := Z.says.def_ 3 (d := (dd "number_of" 8 [] [])) rfl
  have G_number_of : FnG P w K mg base CX0 1 _ fd_number_of ["digits", "radix"] _ := ok_number_of Z F_number_of
  have m_number_of : mg "number_of" = some (.ref (He.ga K "number_of")) := Z.glo 3 rfl
  obtain ⟨fd_power_of, F_power_of⟩ : ∃ fd, D_power_of K fd := Z.says.def_ 5 (d := (dd "power_of" 10 [] [])) rfl
  have G_power_of : FnG P w K mg base CX0 1 _ fd_power_of ["radix", "exponent"] _ := ok_power_of Z F_power_of
  have m_power_of : mg "power_of" = some (.ref (He.ga K "power_of")) := Z.glo 5 rfl
  have b_digits_in : Binds K fd_digits_in ["number", "radix"] [] := F_digits_in.bindsN fun _ _ _ _ _ _ us hl => match us, hl with | [_, _], _ => rfl
  have b_are_plain : Binds K fd_are_plain ["digits"] [] := F_are_plain.bindsN fun _ _ _ _ _ _ us hl => match us, hl with | [_], _ => rfl
  have b_number_of : Binds K fd_number_of ["digits", "radix"] [] := F_number_of.bindsN fun _ _ _ _ _ _ us hl => match us, hl with | [_, _], _ => rfl
  have b_power_of : Binds K fd_power_of ["radix", "exponent"] [] := F_power_of.bindsN fun _ _ _ _ _ _ us hl => match us, hl with | [_, _], _ => rfl
  have sc := sc_rank_of
  refine okP F sc rfl rfl (F := b_rank_of) fun cdv A outer s H E hg hr => ?_
  exact ⟨_, (s_cons (s_set 1 sc.nd (d_call G_digits_in hg (hr.mono (by decide)) m_digits_in F_digits_in.kp b_digits_in .nil (fun _ => .nil) (d_cons (d_var 0) (d_cons d_int d_nil))))
    (s_cons (s_if (d_tst (d_call G_are_plain hg (hr.mono (by decide)) m_are_plain F_are_plain.kp b_are_plain .nil (fun _ => .nil) (d_cons (d_var 1) d_nil)))
    (s_one (s_ret (d_call G_number_of hg (hr.mono (by decide)) m_number_of F_number_of.kp b_number_of .nil (fun _ => .nil) (d_cons (d_var 1) (d_cons d_int d_nil)))))
    s_nil)
    (s_cons (s_set 2 sc.nd (d_index (u65 hr) (d_var 1) d_int))
    (s_one (s_ret (d_op k_mul (d_op k_add (d_call G_number_of hg (hr.mono (by decide)) m_number_of F_number_of.kp b_number_of .nil (fun _ => .nil) (d_cons (d_of (f_cutL (d_var 1) o_none (o_some (d_var 2)))) (d_cons d_int d_nil))) d_int) (d_call G_power_of hg (hr.mono (by decide)) m_power_of F_power_of.kp b_power_of .nil (fun _ => .nil) (d_cons d_int (d_cons (d_op k_sub (d_callB c_len fr_len rfl (d_cons (d_var 1) d_nil)) (d_var 2)) d_nil)))))))))⟩
/-! is_plain_number -/
def b_is_plain_number : S → M Out := (sRet (vAnd (dCallK 3 1 1 f_is_integer (fun as bs => as ++ (bs ++ [.non])) (aCons (dVar 0) aNil) (aCons (dC (.int 0)) aNil)) (dCallU 1 f_are_plain [] (aCons (dCallU 2 f_digits_in [] (aCons (dVar 0) (aCons (dC (.int 3)) aNil))) aNil))))
def f_is_plain_number : FnD := runP 1 b_is_plain_number
theorem sc_is_plain_number : FnScope ["value"] ["value"] (defScope (top 13)) := ⟨rfl, rfl, rfl, by decide +kernel, rfl, by decide +kernel, by decide +kernel⟩
abbrev D_is_plain_number (K : PySem.W.Frag) (fd : FuncData) : Prop := FunD K "is_plain_number" "is_plain_number" (defArgs (top 13)) (defBody (top 13)) (defScope (top 13)) [] [] (He.ga K "is_plain_number") fd
theorem ok_is_plain_number {P : Program} {w : World} {K : PySem.W.Frag} {mg : Str → Option Value} {base : Heap} (Z : Ctx K mg) {fd : FuncData} (F : D_is_plain_number K fd) : FnG P w K mg base CX0 2 (He.ga K "is_plain_number") fd ["value"] (spP K cl0 1 f_is_plain_number) := by
  obtain ⟨fd_are_plain, F_are_plain⟩ : ∃ fd, D_are_plain K fd := Z.says.def_ 4 (d := (dd "are_plain" 9 [] [])) rfl
  have G_are_plain : FnG P w K mg base CX0 1 _ fd_are_plain ["digits"] _ := ok_are_plain Z F_are_plain
  have m_are_plain : mg "are_plain" = some (.ref (He.ga K "are_plain")) := Z.glo 4 rfl
  obtain ⟨fd_digits_in, F_digits_in⟩ : ∃ fd, D_digits_in K fd := Z.says.def_ 2 (d := (dd "digits_in" 7 [] [])) rfl
  have G_digits_in : FnG P w K mg base CX0 1 _ fd_digits_in ["number", "radix"] _ := ok_digits_in Z F_digits_in
  have m_digits_in : mg "digits_in" = some (.ref (He.ga K "digits_in")) := Z.glo 2 rfl
  obtain ⟨fd_is_integer, F_is_integer⟩ : ∃ fd, D_is_integer K fd := Z.says.def_ 0 (d := (dd "is_integer" 5 [] [("low", .non), ("high", .non)])) rfl
  have G_is_integer : FnG P w K mg base CX0 1 _ fd_is_integer ["value", "low", "high"] _ := ok_is_integer Z F_is_integer
  have m_is_integer : mg "is_integer" = some (.ref (He.ga K "is_integer")) := Z.glo 0 rfl
  have b_are_plain : Binds K fd_are_plain ["digits"] [] := F_are_plain.bindsN fun _ _ _ _ _ _ us hl => match us, hl with | [_], _ => rfl
  have b_digits_in : Binds K fd_digits_in ["number", "radix"] [] := F_digits_in.bindsN fun _ _ _ _ _ _ us hl => match us, hl with | [_, _], _ => rfl
  obtain ⟨mvb_is_integer_1_low, b_is_integer_1_low⟩ := F_is_integer.kbinds0 1 ["low"] [("high", V.non)] (ps := ["value", "low", "high"]) (fun as mz bs => as ++ (bs ++ mz)) (by decide) (by simp) (fun a m b => a.append (b.append m)) fun _ _ _ _ _ _ us mv ws h1 h0 h2 => match us, mv, ws, h1, h0, h2 with | [_], [_], [_], _, _, _ => ⟨_, _, _, _, _, _, rfl, rfl, rfl⟩
  have sc := sc_is_plain_number
  refine okP F sc rfl rfl (F := b_is_plain_number) fun cdv A outer s H E hg hr => ?_
  exact ⟨_, (s_one (s_ret (d_vand (d_callK (ks := ["low"]) (gD := (fun as bs => as ++ (bs ++ [.non]))) G_is_integer hg (hr.mono (by decide)) m_is_integer F_is_integer.kp b_is_integer_1_low (fun _ _ _ _ _ a b => a.append (b.append (.cons .non (.nil)))) (d_cons (d_var 0) d_nil) (k_cons d_int k_nil)) (d_vone (d_call G_are_plain hg (hr.mono (by decide)) m_are_plain F_are_plain.kp b_are_plain .nil (fun _ => .nil) (d_cons (d_call G_digits_in hg (hr.mono (by decide)) m_digits_in F_digits_in.kp b_digits_in .nil (fun _ => .nil) (d_cons (d_var 0) (d_cons d_int d_nil))) d_nil))))))⟩
/-! _law_stream -/
def b__law_stream : S → M Out := (sRetF (dLst (aCons (dIf (dTst (dBin geI (dVar 0) (dBin powI (dC (.int 10)) (dC (.int 18))))) (dVar 0) (dC (.int 0))) (aCons (dC (.int 0)) (aCons (dCallU 2 f__law_mixed [] (aCons (dVar 0) (aCons (dVar 1) aNil))) aNil)))))
def f__law_stream : FnD := runF 2 b__law_stream
theorem sc__law_stream : FnScope ["_law_item", "_law_k"] ["_law_item", "_law_k"] (defScope (top 21)) := ⟨rfl, rfl, rfl, by decide +kernel, rfl, by decide +kernel, by decide +kernel⟩
abbrev D__law_stream (K : PySem.W.Frag) (fd : FuncData) : Prop := FunD K "_law_stream" "_law_stream" (defArgs (top 21)) (defBody (top 21)) (defScope (top 21)) [] [] (He.ga K "_law_stream") fd
theorem ok__law_stream {P : Program} {w : World} {K : PySem.W.Frag} {mg : Str → Option Value} {base : Heap} (Z : Ctx K mg) {fd : FuncData} (F : D__law_stream K fd) : FnG P w K mg base CX0 2 (He.ga K "_law_stream") fd ["_law_item", "_law_k"] (spF K cl0 2 f__law_stream) := by
  obtain ⟨fd__law_mixed, F__law_mixed⟩ : ∃ fd, D__law_mixed K fd := Z.says.def_ 14 (d := (dd "_law_mixed" 20 [] [])) rfl
  have G__law_mixed : FnG P w K mg base CX0 1 _ fd__law_mixed ["_law_amount", "_law_k"] _ := ok__law_mixed Z F__law_mixed
  have m__law_mixed : mg "_law_mixed" = some (.ref (He.ga K "_law_mixed")) := Z.glo 14 rfl
  have b__law_mixed : Binds K fd__law_mixed ["_law_amount", "_law_k"] [] := F__law_mixed.bindsN fun _ _ _ _ _ _ us hl => match us, hl with | [_, _], _ => rfl
  have sc := sc__law_stream
  refine okF F sc rfl rfl (F := b__law_stream) fun cdv A outer s H E hg hr => ?_
  exact ⟨_, (s_one (s_retF (f_lst (d_cons (d_ifx (d_tcmp k_ge (d_var 0) (d_op k_pow d_int d_int)) (d_var 0) d_int) (d_cons d_int (d_cons (d_call G__law_mixed hg (hr.mono (by decide)) m__law_mixed F__law_mixed.kp b__law_mixed .nil (fun _ => .nil) (d_cons (d_var 0) (d_cons (d_var 1) d_nil))) d_nil))))))⟩
/-! _law_draw -/
def b__law_draw : S → M Out := (sSeq (sPut 0 (dC (.int 1)) (dBin addI (dOwnIx 0 (dC (.int 1))) (dC (.int 1))))
    (sSeq (sIf (dTst (dBin eqD (dOwnIx 0 (dC (.int 0))) (dC (.int 0))))
    (sRet (dBin modI (dCallU 2 f__law_mixed [] (aCons (dCallU 2 f__law_mixed [] (aCons (dOwnIx 0 (dC (.int 2))) (aCons (dOwnIx 0 (dC (.int 1))) aNil))) (aCons (dC (.int 7)) aNil))) (dVar 1)))
    sNil)
    (sSeq (sSet 2 (dBin modI (dOwnIx 0 (dC (.int 0))) (dVar 1)))
    (sSeq (sPut 0 (dC (.int 0)) (dBin divI (dOwnIx 0 (dC (.int 0))) (dVar 1)))
    (sRet (dVar 2))))))
def f__law_draw : D → List D → M (D × D) := runI 3 b__law_draw
theorem sc__law_draw : FnScope ["_law_stream_here", "_law_top", "_law_amount"] ["_law_stream_here", "_law_top"] (defScope (top 22)) := ⟨rfl, rfl, rfl, by decide +kernel, rfl, by decide +kernel, by decide +kernel⟩
abbrev D__law_draw (K : PySem.W.Frag) (fd : FuncData) : Prop := FunD K "_law_draw" "_law_draw" (defArgs (top 22)) (defBody (top 22)) (defScope (top 22)) [] [] (He.ga K "_law_draw") fd
theorem ok__law_draw {P : Program} {w : World} {K : PySem.W.Frag} {mg : Str → Option Value} {base : Heap} (Z : Ctx K mg) {fd : FuncData} (F : D__law_draw K fd) : FnG P w K mg base CX0 2 (He.ga K "_law_draw") fd ["_law_stream_here", "_law_top"] (spI K cl0 2 f__law_draw) := by
  obtain ⟨fd__law_mixed, F__law_mixed⟩ : ∃ fd, D__law_mixed K fd := Z.says.def_ 14 (d := (dd "_law_mixed" 20 [] [])) rfl
  have G__law_mixed : FnG P w K mg base CX0 1 _ fd__law_mixed ["_law_amount", "_law_k"] _ := ok__law_mixed Z F__law_mixed
  have m__law_mixed : mg "_law_mixed" = some (.ref (He.ga K "_law_mixed")) := Z.glo 14 rfl
  have b__law_mixed : Binds K fd__law_mixed ["_law_amount", "_law_k"] [] := F__law_mixed.bindsN fun _ _ _ _ _ _ us hl => match us, hl with | [_, _], _ => rfl
  have sc := sc__law_draw
  refine okI F sc rfl rfl (by decide) (F := b__law_draw) fun cdv A outer s H E hg hr => ?_
  exact ⟨_, (s_cons (s_put 0 (d_op k_add (d_ownIx 0 d_int (fun _ _ => rfl)) d_int) d_int)
    (s_cons (s_if (d_tcmp (k_eqD (u64 hr)) (d_ownIx 0 d_int (fun _ _ => rfl)) d_int)
    (s_one (s_ret (d_op k_mod (d_call G__law_mixed hg (hr.mono (by decide)) m__law_mixed F__law_mixed.kp b__law_mixed .nil (fun _ => .nil) (d_cons (d_call G__law_mixed hg (hr.mono (by decide)) m__law_mixed F__law_mixed.kp b__law_mixed .nil (fun _ => .nil) (d_cons (d_ownIx 0 d_int (fun _ _ => rfl)) (d_cons (d_ownIx 0 d_int (fun _ _ => rfl)) d_nil))) (d_cons d_int d_nil))) (d_var 1))))
    s_nil)
    (s_cons (s_set 2 sc.nd (d_op k_mod (d_ownIx 0 d_int (fun _ _ => rfl)) (d_var 1)))
    (s_cons (s_put 0 (d_op k_div (d_ownIx 0 d_int (fun _ _ => rfl)) (d_var 1)) d_int)
    (s_one (s_ret (d_var 2)))))))⟩
/-! base_member -/
def b_base_member : S → M Out := (sSeq (sExpr (dCallU 3 f_check_number [.int 0, .non] (aCons (dVar 0) aNil)))
    (sRet (dCallU 1 f_member_at [] (aCons (dVar 0) aNil))))
def f_base_member : FnD := runP 1 b_base_member
theorem sc_base_member : FnScope ["number"] ["number"] (defScope (top 14)) := ⟨rfl, rfl, rfl, by decide +kernel, rfl, by decide +kernel, by decide +kernel⟩
abbrev D_base_member (K : PySem.W.Frag) (fd : FuncData) : Prop := FunD K "base_member" "base_member" (defArgs (top 14)) (defBody (top 14)) (defScope (top 14)) [] [] (He.ga K "base_member") fd
theorem ok_base_member {P : Program} {w : World} {K : PySem.W.Frag} {mg : Str → Option Value} {base : Heap} (Z : Ctx K mg) {fd : FuncData} (F : D_base_member K fd) : FnG P w K mg base CX0 3 (He.ga K "base_member") fd ["number"] (spP K cl0 1 f_base_member) := by
  obtain ⟨fd_check_number, F_check_number⟩ : ∃ fd, D_check_number K fd := Z.says.def_ 1 (d := (dd "check_number" 6 [.int 0, .non] [])) rfl
  have G_check_number : FnG P w K mg base CX0 2 _ fd_check_number ["value", "low", "high"] _ := ok_check_number Z F_check_number
  have m_check_number : mg "check_number" = some (.ref (He.ga K "check_number")) := Z.glo 1 rfl
  obtain ⟨fd_member_at, F_member_at⟩ : ∃ fd, D_member_at K fd := Z.says.def_ 6 (d := (dd "member_at" 11 [] [])) rfl
  have G_member_at : FnG P w K mg base CX0 2 _ fd_member_at ["number"] _ := ok_member_at Z F_member_at
  have m_member_at : mg "member_at" = some (.ref (He.ga K "member_at")) := Z.glo 6 rfl
  obtain ⟨db_check_number_1, vb_check_number_1, b_check_number_1⟩ : ∃ ds, Vals [(V.int 0), V.non] ds ∧ Binds K fd_check_number ["value", "low", "high"] ds := F_check_number.binds1 1 0 (by decide) rfl fun _ _ _ _ _ _ _ us ks h1 h2 => match us, ks, h1, h2 with | [_], [_, _], _, _ => ⟨_, rfl, rfl⟩
  have b_member_at : Binds K fd_member_at ["number"] [] := F_member_at.bindsN fun _ _ _ _ _ _ us hl => match us, hl with | [_], _ => rfl
  have sc := sc_base_member
  refine okP F sc rfl rfl (F := b_base_member) fun cdv A outer s H E hg hr => ?_
  exact ⟨_, (s_cons (s_expr (d_call G_check_number hg (hr.mono (by decide)) m_check_number F_check_number.kp b_check_number_1 vb_check_number_1 (fun _ => .cons (.int 0) (.cons .non (.nil))) (d_cons (d_var 0) d_nil)))
    (s_one (s_ret (d_call G_member_at hg (hr.mono (by decide)) m_member_at F_member_at.kp b_member_at .nil (fun _ => .nil) (d_cons (d_var 0) d_nil)))))⟩
/-! base_rank -/
def b_base_rank : S → M Out := (sSeq (sExpr (dCallU 3 f_check_number [.int 0, .non] (aCons (dVar 0) aNil)))
    (sRet (dCallU 1 f_rank_of [] (aCons (dVar 0) aNil))))
def f_base_rank : FnD := runP 1 b_base_rank
theorem sc_base_rank : FnScope ["x"] ["x"] (defScope (top 15)) := ⟨rfl, rfl, rfl, by decide +kernel, rfl, by decide +kernel, by decide +kernel⟩
abbrev D_base_rank (K : PySem.W.Frag) (fd : FuncData) : Prop := FunD K "base_rank" "base_rank" (defArgs (top 15)) (defBody (top 15)) (defScope (top 15)) [] [] (He.ga K "base_rank") fd
theorem ok_base_rank {P : Program} {w : World} {K : PySem.W.Frag} {mg : Str → Option Value} {base : Heap} (Z : Ctx K mg) {fd : FuncData} (F : D_base_rank K fd) : FnG P w K mg base CX0 3 (He.ga K "base_rank") fd ["x"] (spP K cl0 1 f_base_rank) := by
  obtain ⟨fd_check_number, F_check_number⟩ : ∃ fd, D_check_number K fd := Z.says.def_ 1 (d := (dd "check_number" 6 [.int 0, .non] [])) rfl
  have G_check_number : FnG P w K mg base CX0 2 _ fd_check_number ["value", "low", "high"] _ := ok_check_number Z F_check_number
  have m_check_number : mg "check_number" = some (.ref (He.ga K "check_number")) := Z.glo 1 rfl
  obtain ⟨fd_rank_of, F_rank_of⟩ : ∃ fd, D_rank_of K fd := Z.says.def_ 7 (d := (dd "rank_of" 12 [] [])) rfl
  have G_rank_of : FnG P w K mg base CX0 2 _ fd_rank_of ["x"] _ := ok_rank_of Z F_rank_of
  have m_rank_of : mg "rank_of" = some (.ref (He.ga K "rank_of")) := Z.glo 7 rfl
  obtain ⟨db_check_number_1, vb_check_number_1, b_check_number_1⟩ : ∃ ds, Vals [(V.int 0), V.non] ds ∧ Binds K fd_check_number ["value", "low", "high"] ds := F_check_number.binds1 1 0 (by decide) rfl fun _ _ _ _ _ _ _ us ks h1 h2 => match us, ks, h1, h2 with | [_], [_, _], _, _ => ⟨_, rfl, rfl⟩
  have b_rank_of : Binds K fd_rank_of ["x"] [] := F_rank_of.bindsN fun _ _ _ _ _ _ us hl => match us, hl with | [_], _ => rfl
  have sc := sc_base_rank
  refine okP F sc rfl rfl (F := b_base_rank) fun cdv A outer s H E hg hr => ?_
  exact ⟨_, (s_cons (s_expr (d_call G_check_number hg (hr.mono (by decide)) m_check_number F_check_number.kp b_check_number_1 vb_check_number_1 (fun _ => .cons (.int 0) (.cons .non (.nil))) (d_cons (d_var 0) d_nil)))
    (s_one (s_ret (d_call G_rank_of hg (hr.mono (by decide)) m_rank_of F_rank_of.kp b_rank_of .nil (fun _ => .nil) (d_cons (d_var 0) d_nil)))))⟩
/-! base_gap -/
def b_base_gap : S → M Out := (sSeq (sExpr (dCallU 3 f_check_number [.non] (aCons (dVar 0) (aCons (dC (.int 1)) aNil))))
    (sSeq (sSet 1 (dC (.int 1)))
    (sSeq (sWhile (dTst (dBin eqD (dBin modI (dVar 0) (dC (.int 2))) (dC (.int 0))))
    (sPar 0 1 (aCons (dBin divI (dVar 0) (dC (.int 2))) (aCons (dBin mulI (dVar 1) (dC (.int 3))) aNil))))
    (sRet (dBin divI (dBin addI (dVar 1) (dC (.int 1))) (dC (.int 2)))))))
def f_base_gap : FnD := runP 2 b_base_gap
theorem sc_base_gap : FnScope ["number", "found"] ["number"] (defScope (top 16)) := ⟨rfl, rfl, rfl, by decide +kernel, rfl, by decide +kernel, by decide +kernel⟩
abbrev D_base_gap (K : PySem.W.Frag) (fd : FuncData) : Prop := FunD K "base_gap" "base_gap" (defArgs (top 16)) (defBody (top 16)) (defScope (top 16)) [] [] (He.ga K "base_gap") fd
theorem ok_base_gap {P : Program} {w : World} {K : PySem.W.Frag} {mg : Str → Option Value} {base : Heap} (Z : Ctx K mg) {fd : FuncData} (F : D_base_gap K fd) : FnG P w K mg base CX0 3 (He.ga K "base_gap") fd ["number"] (spP K cl0 1 f_base_gap) := by
  obtain ⟨fd_check_number, F_check_number⟩ : ∃ fd, D_check_number K fd := Z.says.def_ 1 (d := (dd "check_number" 6 [.int 0, .non] [])) rfl
  have G_check_number : FnG P w K mg base CX0 2 _ fd_check_number ["value", "low", "high"] _ := ok_check_number Z F_check_number
  have m_check_number : mg "check_number" = some (.ref (He.ga K "check_number")) := Z.glo 1 rfl
  obtain ⟨db_check_number_2, vb_check_number_2, b_check_number_2⟩ : ∃ ds, Vals [V.non] ds ∧ Binds K fd_check_number ["value", "low", "high"] ds := F_check_number.binds1 2 1 (by decide) rfl fun _ _ _ _ _ _ _ us ks h1 h2 => match us, ks, h1, h2 with | [_, _], [_, _], _, _ => ⟨_, rfl, rfl⟩
  have sc := sc_base_gap
  refine okP F sc rfl rfl (F := b_base_gap) fun cdv A outer s H E hg hr => ?_
  exact ⟨_, (s_cons (s_expr (d_call G_check_number hg (hr.mono (by decide)) m_check_number F_check_number.kp b_check_number_2 vb_check_number_2 (fun _ => .cons .non (.nil)) (d_cons (d_var 0) (d_cons d_int d_nil))))
    (s_cons (s_set 1 sc.nd d_int)
    (s_cons (s_while PassesOwn.never (d_tcmp (k_eqD (u64 hr)) (d_op k_mod (d_var 0) d_int) d_int)
    (s_one (s_par (i := 0) (j := 1) rfl sc.nd (d_cons (d_op k_div (d_var 0) d_int) (d_cons (d_op k_mul (d_var 1) d_int) d_nil)))))
    (s_one (s_ret (d_op k_div (d_op k_add (d_var 1) d_int) d_int))))))⟩
/-! base_sum -/
def b_base_sum : S → M Out := (sSeq (sExpr (dCallU 3 f_check_number [.int 0, .non] (aCons (dVar 0) aNil)))
    (sSeq (sAsg (dTup (aCons (dC (.int 0)) (aCons (dC (.int 1)) (aCons (dC (.int 1)) aNil)))) (gTp (gsCons (gNm 1) (gsCons (gNm 2) (gsCons (gNm 3) gsNil)))))
    (sSeq (sWhile (dTst (dBin leI (dVar 2) (dVar 0)))
    (sSeq (sAsg (dCall divmodN (aCons (dVar 0) (aCons (dBin mulI (dC (.int 2)) (dVar 2)) aNil))) (gTp (gsCons (gNm 4) (gsCons (gNm 5) gsNil))))
    (sSeq (sSet 1 (dBin addI (dVar 1) (dBin mulI (dBin addI (dBin mulI (dVar 4) (dVar 2)) (dCall max2N (aCons (dC (.int 0)) (aCons (dBin subI (dVar 5) (dVar 2)) aNil)))) (dVar 3))))
    (sPar 2 3 (aCons (dBin mulI (dC (.int 2)) (dVar 2)) (aCons (dBin mulI (dC (.int 3)) (dVar 3)) aNil))))))
    (sRet (dVar 1)))))
def f_base_sum : FnD := runP 6 b_base_sum
theorem sc_base_sum : FnScope ["number", "found", "half", "power", "whole", "rest"] ["number"] (defScope (top 17)) := ⟨rfl, rfl, rfl, by decide +kernel, rfl, by decide +kernel, by decide +kernel⟩
abbrev D_base_sum (K : PySem.W.Frag) (fd : FuncData) : Prop := FunD K "base_sum" "base_sum" (defArgs (top 17)) (defBody (top 17)) (defScope (top 17)) [] [] (He.ga K "base_sum") fd
theorem ok_base_sum {P : Program} {w : World} {K : PySem.W.Frag} {mg : Str → Option Value} {base : Heap} (Z : Ctx K mg) {fd : FuncData} (F : D_base_sum K fd) : FnG P w K mg base CX0 3 (He.ga K "base_sum") fd ["number"] (spP K cl0 1 f_base_sum) := by
  have fr_divmod : mg "divmod" = none := Z.fre "divmod" (by decide)
  have fr_max : mg "max" = none := Z.fre "max" (by decide)
  obtain ⟨fd_check_number, F_check_number⟩ : ∃ fd, D_check_number K fd := Z.says.def_ 1 (d := (dd "check_number" 6 [.int 0, .non] [])) rfl
  have G_check_number : FnG P w K mg base CX0 2 _ fd_check_number ["value", "low", "high"] _ := ok_check_number Z F_check_number
  have m_check_number : mg "check_number" = some (.ref (He.ga K "check_number")) := Z.glo 1 rfl
  obtain ⟨db_check_number_1, vb_check_number_1, b_check_number_1⟩ : ∃ ds, Vals [(V.int 0), V.non] ds ∧ Binds K fd_check_number ["value", "low", "high"] ds := F_check_number.binds1 1 0 (by decide) rfl fun _ _ _ _ _ _ _ us ks h1 h2 => match us, ks, h1, h2 with | [_], [_, _], _, _ => ⟨_, rfl, rfl⟩
  have sc := sc_base_sum
  refine okP F sc rfl rfl (F := b_base_sum) fun cdv A outer s H E hg hr => ?_
  exact ⟨_, (s_cons (s_expr (d_call G_check_number hg (hr.mono (by decide)) m_check_number F_check_number.kp b_check_number_1 vb_check_number_1 (fun _ => .cons (.int 0) (.cons .non (.nil))) (d_cons (d_var 0) d_nil)))
    (s_cons (s_asg (d_tup (d_cons d_int (d_cons d_int (d_cons d_int d_nil)))) (g_tup rfl (gs_cons (g_name 1 sc.nd) (gs_cons (g_name 2 sc.nd) (gs_cons (g_name 3 sc.nd) gs_nil))) 3 (gsl_cons (gsl_cons (gsl_cons gsl_nil)))))
    (s_cons (s_while PassesOwn.never (d_tcmp k_le (d_var 2) (d_var 0))
    (s_cons (s_asg (d_callB c_divmod fr_divmod rfl (d_cons (d_var 0) (d_cons (d_op k_mul d_int (d_var 2)) d_nil))) (g_tup rfl (gs_cons (g_name 4 sc.nd) (gs_cons (g_name 5 sc.nd) gs_nil)) 2 (gsl_cons (gsl_cons gsl_nil))))
    (s_cons (s_set 1 sc.nd (d_op k_add (d_var 1) (d_op k_mul (d_op k_add (d_op k_mul (d_var 4) (d_var 2)) (d_callB (c_max2 rfl) fr_max rfl (d_cons d_int (d_cons (d_op k_sub (d_var 5) (d_var 2)) d_nil)))) (d_var 3))))
    (s_one (s_par (i := 2) (j := 3) rfl sc.nd (d_cons (d_op k_mul d_int (d_var 2)) (d_cons (d_op k_mul d_int (d_var 3)) d_nil)))))))
    (s_one (s_ret (d_var 1))))))⟩
/-! mirror -/
def b_mirror : S → M Out := (sSeq (sExpr (dCallU 3 f_check_number [] (aCons (dVar 1) (aCons (dC (.int 0)) (aCons (dC (.int 2000)) aNil)))))
    (sSeq (sSet 2 (dBin divI (dBin subI (dCallU 2 f_power_of [] (aCons (dC (.int 3)) (aCons (dVar 1) aNil))) (dC (.int 1))) (dC (.int 2))))
    (sSeq (sIf (dOr (dNot (dTst (dCallU 1 f_is_plain_number [] (aCons (dVar 0) aNil)))) (dTst (dBin gtI (dVar 0) (dVar 2))))
    sNever
    sNil)
    (sRet (dBin subI (dVar 2) (dVar 0))))))
def f_mirror : FnD := runP 3 b_mirror
theorem sc_mirror : FnScope ["x", "power", "greatest"] ["x", "power"] (defScope (top 18)) := ⟨rfl, rfl, rfl, by decide +kernel, rfl, by decide +kernel, by decide +kernel⟩
abbrev D_mirror (K : PySem.W.Frag) (fd : FuncData) : Prop := FunD K "mirror" "mirror" (defArgs (top 18)) (defBody (top 18)) (defScope (top 18)) [] [] (He.ga K "mirror") fd
theorem ok_mirror {P : Program} {w : World} {K : PySem.W.Frag} {mg : Str → Option Value} {base : Heap} (Z : Ctx K mg) {fd : FuncData} (F : D_mirror K fd) : FnG P w K mg base CX0 3 (He.ga K "mirror") fd ["x", "power"] (spP K cl0 2 f_mirror) := by
  have co_MOST_POWER : ∃ t, mg "MOST_POWER" = some (.int 2000 t) := Z.cst ("MOST_POWER", 2000) (by decide)
  obtain ⟨fd_check_number, F_check_number⟩ : ∃ fd, D_check_number K fd := Z.says.def_ 1 (d := (dd "check_number" 6 [.int 0, .non] [])) rfl
  have G_check_number : FnG P w K mg base CX0 2 _ fd_check_number ["value", "low", "high"] _ := ok_check_number Z F_check_number
  have m_check_number : mg "check_number" = some (.ref (He.ga K "check_number")) := Z.glo 1 rfl
  obtain ⟨fd_power_of, F_power_of⟩ : ∃ fd, D_power_of K fd := Z.says.def_ 5 (d := (dd "power_of" 10 [] [])) rfl
  have G_power_of : FnG P w K mg base CX0 1 _ fd_power_of ["radix", "exponent"] _ := ok_power_of Z F_power_of
  have m_power_of : mg "power_of" = some (.ref (He.ga K "power_of")) := Z.glo 5 rfl
  obtain ⟨fd_is_plain_number, F_is_plain_number⟩ : ∃ fd, D_is_plain_number K fd := Z.says.def_ 8 (d := (dd "is_plain_number" 13 [] [])) rfl
  have G_is_plain_number : FnG P w K mg base CX0 2 _ fd_is_plain_number ["value"] _ := ok_is_plain_number Z F_is_plain_number
  have m_is_plain_number : mg "is_plain_number" = some (.ref (He.ga K "is_plain_number")) := Z.glo 8 rfl
  obtain ⟨db_check_number_3, vb_check_number_3, b_check_number_3⟩ : ∃ ds, Vals [] ds ∧ Binds K fd_check_number ["value", "low", "high"] ds := F_check_number.binds1 3 2 (by decide) rfl fun _ _ _ _ _ _ _ us ks h1 h2 => match us, ks, h1, h2 with | [_, _, _], [_, _], _, _ => ⟨_, rfl, rfl⟩
  have b_power_of : Binds K fd_power_of ["radix", "exponent"] [] := F_power_of.bindsN fun _ _ _ _ _ _ us hl => match us, hl with | [_, _], _ => rfl
  have b_is_plain_number : Binds K fd_is_plain_number ["value"] [] := F_is_plain_number.bindsN fun _ _ _ _ _ _ us hl => match us, hl with | [_], _ => rfl
  have sc := sc_mirror
  refine okP F sc rfl rfl (F := b_mirror) fun cdv A outer s H E hg hr => ?_
  exact ⟨_, (s_cons (s_expr (d_call G_check_number hg (hr.mono (by decide)) m_check_number F_check_number.kp b_check_number_3 vb_check_number_3 (fun _ => .nil) (d_cons (d_var 1) (d_cons d_int (d_cons (d_gint co_MOST_POWER) d_nil)))))
    (s_cons (s_set 2 sc.nd (d_op k_div (d_op k_sub (d_call G_power_of hg (hr.mono (by decide)) m_power_of F_power_of.kp b_power_of .nil (fun _ => .nil) (d_cons d_int (d_cons (d_var 1) d_nil))) d_int) d_int))
    (s_cons (s_if (d_or (d_not (d_tst (d_call G_is_plain_number hg (hr.mono (by decide)) m_is_plain_number F_is_plain_number.kp b_is_plain_number .nil (fun _ => .nil) (d_cons (d_var 0) d_nil)))) (d_or1 (d_tcmp k_gt (d_var 0) (d_var 2)))).pt
    (s_one s_never)
    s_nil)
    (s_one (s_ret (d_op k_sub (d_var 2) (d_var 0)))))))⟩
/-! _law_number -/
def b__law_number : S → M Out := (sSeq (sSet 1 (dCallI 0 2 f__law_draw (aCons (dC (.int 4)) aNil)))
    (sSeq (sIf (dTst (dBin eqD (dVar 1) (dC (.int 0))))
    (sRet (dCallI 0 2 f__law_draw (aCons (dC (.int 100)) aNil)))
    sNil)
    (sSeq (sIf (dTst (dBin eqD (dVar 1) (dC (.int 1))))
    (sRet (dBin addI (dBin mulI (dCallI 0 2 f__law_draw (aCons (dBin powI (dC (.int 10)) (dC (.int 30))) aNil)) (dBin powI (dC (.int 10)) (dC (.int 30)))) (dCallI 0 2 f__law_draw (aCons (dBin powI (dC (.int 10)) (dC (.int 30))) aNil))))
    sNil)
    (sSeq (sSet 2 (dC (.int 1)))
    (sSeq (sFor (iR1 (aCons (dCallI 0 2 f__law_draw (aCons (dC (.int 120)) aNil)) aNil)) (gNm 3)
    (sSet 2 (dBin addI (dBin mulI (dC (.int 3)) (dVar 2)) (dIf (dTst (dBin eqD (dVar 1) (dC (.int 3)))) (dCallI 0 2 f__law_draw (aCons (dC (.int 2)) aNil)) (dC (.int 0))))))
    (sRet (dCall max2N (aCons (dC (.int 0)) (aCons (dBin subI (dBin addI (dVar 2) (dCallI 0 2 f__law_draw (aCons (dC (.int 3)) aNil))) (dC (.int 1))) aNil)))))))))
def f__law_number : D → List D → M (D × D) := runI 4 b__law_number
theorem sc__law_number : FnScope ["_law_stream_here", "_law_way", "_law_found", "_law_turn"] ["_law_stream_here"] (defScope (top 23)) := ⟨rfl, rfl, rfl, by decide +kernel, rfl, by decide +kernel, by decide +kernel⟩
abbrev D__law_number (K : PySem.W.Frag) (fd : FuncData) : Prop := FunD K "_law_number" "_law_number" (defArgs (top 23)) (defBody (top 23)) (defScope (top 23)) [] [] (He.ga K "_law_number") fd
theorem ok__law_number {P : Program} {w : World} {K : PySem.W.Frag} {mg : Str → Option Value} {base : Heap} (Z : Ctx K mg) {fd : FuncData} (F : D__law_number K fd) : FnG P w K mg base CX0 3 (He.ga K "_law_number") fd ["_law_stream_here"] (spI K cl0 1 f__law_number) := by
  have fr_range : mg "range" = none := Z.fre "range" (by decide)
  have fr_max : mg "max" = none := Z.fre "max" (by decide)
  obtain ⟨fd__law_draw, F__law_draw⟩ : ∃ fd, D__law_draw K fd := Z.says.def_ 16 (d := (dd "_law_draw" 22 [] [])) rfl
  have G__law_draw : FnG P w K mg base CX0 2 _ fd__law_draw ["_law_stream_here", "_law_top"] _ := ok__law_draw Z F__law_draw
  have m__law_draw : mg "_law_draw" = some (.ref (He.ga K "_law_draw")) := Z.glo 16 rfl
  have b__law_draw : Binds K fd__law_draw ["_law_stream_here", "_law_top"] [] := F__law_draw.bindsN fun _ _ _ _ _ _ us hl => match us, hl with | [_, _], _ => rfl
  have sc := sc__law_number
  refine okI F sc rfl rfl (by decide) (F := b__law_number) fun cdv A outer s H E hg hr => ?_
  exact ⟨_, (s_cons (s_set 1 sc.nd (d_callI 0 G__law_draw hg (hr.mono (by decide)) m__law_draw F__law_draw.kp b__law_draw (d_cons d_int d_nil)))
    (s_cons (s_if (d_tcmp (k_eqD (u64 hr)) (d_var 1) d_int)
    (s_one (s_ret (d_callI 0 G__law_draw hg (hr.mono (by decide)) m__law_draw F__law_draw.kp b__law_draw (d_cons d_int d_nil))))
    s_nil)
    (s_cons (s_if (d_tcmp (k_eqD (u64 hr)) (d_var 1) d_int)
    (s_one (s_ret (d_op k_add (d_op k_mul (d_callI 0 G__law_draw hg (hr.mono (by decide)) m__law_draw F__law_draw.kp b__law_draw (d_cons (d_op k_pow d_int d_int) d_nil)) (d_op k_pow d_int d_int)) (d_callI 0 G__law_draw hg (hr.mono (by decide)) m__law_draw F__law_draw.kp b__law_draw (d_cons (d_op k_pow d_int d_int) d_nil)))))
    s_nil)
    (s_cons (s_set 2 sc.nd d_int)
    (s_cons (s_for PassesOwn.never (w_range1 fr_range (d_cons (d_callI 0 G__law_draw hg (hr.mono (by decide)) m__law_draw F__law_draw.kp b__law_draw (d_cons d_int d_nil)) d_nil)) (g_name 3 sc.nd)
    (s_one (s_set 2 sc.nd (d_op k_add (d_op k_mul d_int (d_var 2)) (d_ifx (d_tcmp (k_eqD (u64 hr)) (d_var 1) d_int) (d_callI 0 G__law_draw hg (hr.mono (by decide)) m__law_draw F__law_draw.kp b__law_draw (d_cons d_int d_nil)) d_int)))))
    (s_one (s_ret (d_callB (c_max2 rfl) fr_max rfl (d_cons d_int (d_cons (d_op k_sub (d_op k_add (d_var 2) (d_callI 0 G__law_draw hg (hr.mono (by decide)) m__law_draw F__law_draw.kp b__law_draw (d_cons d_int d_nil))) d_int) d_nil))))))))))⟩
/-! _law_gap_right -/
def b__law_gap_right : S → M Out := (sSeq (sPar 1 2 (aCons (dC (.int 1)) (aCons (dVar 0) aNil)))
    (sSeq (sWhile (dTst (dBin eqD (dBin modI (dVar 2) (dC (.int 2))) (dC (.int 0))))
    (sPar 1 2 (aCons (dBin mulI (dC (.int 3)) (dVar 1)) (aCons (dBin divI (dVar 2) (dC (.int 2))) aNil))))
    (sSeq (sSet 3 (dBin divI (dBin addI (dVar 1) (dC (.int 1))) (dC (.int 2))))
    (sSeq (sIf (dTst (dBin neS (dCall reprN (aCons (dLst (aCons (dCallU 1 f_base_gap [] (aCons (dVar 0) aNil)) (aCons (dCallK 1 0 1 f_base_gap (fun as bs => as ++ bs) aNil (aCons (dVar 0) aNil)) aNil))) aNil)) (dCall reprN (aCons (dLst (aCons (dVar 3) (aCons (dVar 3) aNil))) aNil))))
    (sRet (dC (.bl false)))
    sNil)
    (sRet (dBin eqD (dBin subI (dCallU 1 f_base_member [] (aCons (dVar 0) aNil)) (dCallU 1 f_base_member [] (aCons (dBin subI (dVar 0) (dC (.int 1))) aNil))) (dVar 3)))))))
def f__law_gap_right : FnD := runP 4 b__law_gap_right
theorem sc__law_gap_right : FnScope ["_law_order", "_law_great", "_law_rest", "_law_due"] ["_law_order"] (defScope (top 25)) := ⟨rfl, rfl, rfl, by decide +kernel, rfl, by decide +kernel, by decide +kernel⟩
abbrev D__law_gap_right (K : PySem.W.Frag) (fd : FuncData) : Prop := FunD K "_law_gap_right" "_law_gap_right" (defArgs (top 25)) (defBody (top 25)) (defScope (top 25)) [] [] (He.ga K "_law_gap_right") fd
theorem ok__law_gap_right {P : Program} {w : World} {K : PySem.W.Frag} {mg : Str → Option Value} {base : Heap} (Z : Ctx K mg) {fd : FuncData} (F : D__law_gap_right K fd) : FnG P w K mg base CX0 4 (He.ga K "_law_gap_right") fd ["_law_order"] (spP K cl0 1 f__law_gap_right) := by
  have fr_repr : mg "repr" = none := Z.fre "repr" (by decide)
  obtain ⟨fd_base_gap, F_base_gap⟩ : ∃ fd, D_base_gap K fd := Z.says.def_ 11 (d := (dd "base_gap" 16 [] [])) rfl
  have G_base_gap : FnG P w K mg base CX0 3 _ fd_base_gap ["number"] _ := ok_base_gap Z F_base_gap
  have m_base_gap : mg "base_gap" = some (.ref (He.ga K "base_gap")) := Z.glo 11 rfl
  obtain ⟨fd_base_member, F_base_member⟩ : ∃ fd, D_base_member K fd := Z.says.def_ 9 (d := (dd "base_member" 14 [] [])) rfl
  have G_base_member : FnG P w K mg base CX0 3 _ fd_base_member ["number"] _ := ok_base_member Z F_base_member
  have m_base_member : mg "base_member" = some (.ref (He.ga K "base_member")) := Z.glo 9 rfl
  have b_base_gap_0_number := kbN F_base_gap 0 ["number"] (ps := ["number"]) (fun as bs => as ++ bs) (fun a b => a.append b) fun _ _ _ _ _ _ us ws h1 h2 => match us, ws, h1, h2 with | [], [_], _, _ => rfl
  have b_base_gap : Binds K fd_base_gap ["number"] [] := F_base_gap.bindsN fun _ _ _ _ _ _ us hl => match us, hl with | [_], _ => rfl
  have b_base_member : Binds K fd_base_member ["number"] [] := F_base_member.bindsN fun _ _ _ _ _ _ us hl => match us, hl with | [_], _ => rfl
  have sc := sc__law_gap_right
  refine okP F sc rfl rfl (F := b__law_gap_right) fun cdv A outer s H E hg hr => ?_
  exact ⟨_, (s_cons (s_par (i := 1) (j := 2) rfl sc.nd (d_cons d_int (d_cons (d_var 0) d_nil)))
    (s_cons (s_while PassesOwn.never (d_tcmp (k_eqD (u64 hr)) (d_op k_mod (d_var 2) d_int) d_int)
    (s_one (s_par (i := 1) (j := 2) rfl sc.nd (d_cons (d_op k_mul d_int (d_var 1)) (d_cons (d_op k_div (d_var 2) d_int) d_nil)))))
    (s_cons (s_set 3 sc.nd (d_op k_div (d_op k_add (d_var 1) d_int) d_int))
    (s_cons (s_if (d_tcmp k_neS (d_callB (c_repr hg (u64 hr)) fr_repr rfl (d_cons (d_of (f_lst (d_cons (d_call G_base_gap hg (hr.mono (by decide)) m_base_gap F_base_gap.kp b_base_gap .nil (fun _ => .nil) (d_cons (d_var 0) d_nil)) (d_cons (d_callK0 (ks := ["number"]) (gD := (fun as bs => as ++ bs)) G_base_gap hg (hr.mono (by decide)) m_base_gap F_base_gap.kp b_base_gap_0_number (fun _ _ _ _ _ a b => a.append b) (k_cons (d_var 0) k_nil)) d_nil)))) d_nil)) (d_callB (c_repr hg (u64 hr)) fr_repr rfl (d_cons (d_of (f_lst (d_cons (d_var 3) (d_cons (d_var 3) d_nil)))) d_nil)))
    (s_one (s_ret d_bl))
    s_nil)
    (s_one (s_ret (d_cmp (k_eqD (u64 hr)) (d_op k_sub (d_call G_base_member hg (hr.mono (by decide)) m_base_member F_base_member.kp b_base_member .nil (fun _ => .nil) (d_cons (d_var 0) d_nil)) (d_call G_base_member hg (hr.mono (by decide)) m_base_member F_base_member.kp b_base_member .nil (fun _ => .nil) (d_cons (d_op k_sub (d_var 0) d_int) d_nil))) (d_var 3))))))))⟩
/-! _law_sum_right -/
def b__law_sum_right : S → M Out := (sSeq (sIf (dTst (dBin neD (dBin subI (dCallU 1 f_base_sum [] (aCons (dBin addI (dVar 0) (dC (.int 1))) aNil)) (dCallK 1 0 1 f_base_sum (fun as bs => as ++ bs) aNil (aCons (dVar 0) aNil))) (dCallU 1 f_base_member [] (aCons (dVar 0) aNil))))
    (sRet (dC (.bl false)))
    sNil)
    (sSeq (sAsg (dTup (aCons (dC (.int 1)) (aCons (dC (.int 1)) aNil))) (gTp (gsCons (gNm 1) (gsCons (gNm 2) gsNil))))
    (sSeq (sWhile (dTst (dBin leI (dVar 1) (dVar 0)))
    (sPar 1 2 (aCons (dBin mulI (dC (.int 2)) (dVar 1)) (aCons (dBin mulI (dC (.int 3)) (dVar 2)) aNil))))
    (sSeq (sIf (dTst (dBin neD (dBin mulI (dC (.int 4)) (dCallU 1 f_base_sum [] (aCons (dVar 1) aNil))) (dBin mulI (dVar 1) (dBin subI (dVar 2) (dC (.int 1))))))
    (sRet (dC (.bl false)))
    sNil)
    (sSeq (sSet 3 (dBin subI (dVar 0) (dBin divI (dVar 1) (dC (.int 2)))))
    (sRet (vOr (dBin eqD (dVar 0) (dC (.int 0))) (dBin eqD (dCallU 1 f_base_sum [] (aCons (dVar 0) aNil)) (dBin addI (dBin addI (dCallU 1 f_base_sum [] (aCons (dBin divI (dVar 1) (dC (.int 2))) aNil)) (dCallU 1 f_base_sum [] (aCons (dVar 3) aNil))) (dBin mulI (dVar 3) (dBin divI (dVar 2) (dC (.int 3)))))))))))))
def f__law_sum_right : FnD := runP 4 b__law_sum_right
theorem sc__law_sum_right : FnScope ["_law_order", "_law_half", "_law_great", "_law_rest"] ["_law_order"] (defScope (top 26)) := ⟨rfl, rfl, rfl, by decide +kernel, rfl, by decide +kernel, by decide +kernel⟩
abbrev D__law_sum_right (K : PySem.W.Frag) (fd : FuncData) : Prop := FunD K "_law_sum_right" "_law_sum_right" (defArgs (top 26)) (defBody (top 26)) (defScope (top 26)) [] [] (He.ga K "_law_sum_right") fd
theorem ok__law_sum_right {P : Program} {w : World} {K : PySem.W.Frag} {mg : Str → Option Value} {base : Heap} (Z : Ctx K mg) {fd : FuncData} (F : D__law_sum_right K fd) : FnG P w K mg base CX0 4 (He.ga K "_law_sum_right") fd ["_law_order"] (spP K cl0 1 f__law_sum_right) := by
  obtain ⟨fd_base_sum, F_base_sum⟩ : ∃ fd, D_base_sum K fd := Z.says.def_ 12 (d := (dd "base_sum" 17 [] [])) rfl
  have G_base_sum : FnG P w K mg base CX0 3 _ fd_base_sum ["number"] _ := ok_base_sum Z F_base_sum
  have m_base_sum : mg "base_sum" = some (.ref (He.ga K "base_sum")) := Z.glo 12 rfl
  obtain ⟨fd_base_member, F_base_member⟩ : ∃ fd, D_base_member K fd := Z.says.def_ 9 (d := (dd "base_member" 14 [] [])) rfl
  have G_base_member : FnG P w K mg base CX0 3 _ fd_base_member ["number"] _ := ok_base_member Z F_base_member
  have m_base_member : mg "base_member" = some (.ref (He.ga K "base_member")) := Z.glo 9 rfl
  have b_base_sum : Binds K fd_base_sum ["number"] [] := F_base_sum.bindsN fun _ _ _ _ _ _ us hl => match us, hl with | [_], _ => rfl
  have b_base_sum_0_number := kbN F_base_sum 0 ["number"] (ps := ["number"]) (fun as bs => as ++ bs) (fun a b => a.append b) fun _ _ _ _ _ _ us ws h1 h2 => match us, ws, h1, h2 with | [], [_], _, _ => rfl
  have b_base_member : Binds K fd_base_member ["number"] [] := F_base_member.bindsN fun _ _ _ _ _ _ us hl => match us, hl with | [_], _ => rfl
  have sc := sc__law_sum_right
  refine okP F sc rfl rfl (F := b__law_sum_right) fun cdv A outer s H E hg hr => ?_
  exact ⟨_, (s_cons (s_if (d_tcmp (k_neD (u64 hr)) (d_op k_sub (d_call G_base_sum hg (hr.mono (by decide)) m_base_sum F_base_sum.kp b_base_sum .nil (fun _ => .nil) (d_cons (d_op k_add (d_var 0) d_int) d_nil)) (d_callK0 (ks := ["number"]) (gD := (fun as bs => as ++ bs)) G_base_sum hg (hr.mono (by decide)) m_base_sum F_base_sum.kp b_base_sum_0_number (fun _ _ _ _ _ a b => a.append b) (k_cons (d_var 0) k_nil))) (d_call G_base_member hg (hr.mono (by decide)) m_base_member F_base_member.kp b_base_member .nil (fun _ => .nil) (d_cons (d_var 0) d_nil)))
    (s_one (s_ret d_bl))
    s_nil)
    (s_cons (s_asg (d_tup (d_cons d_int (d_cons d_int d_nil))) (g_tup rfl (gs_cons (g_name 1 sc.nd) (gs_cons (g_name 2 sc.nd) gs_nil)) 2 (gsl_cons (gsl_cons gsl_nil))))
    (s_cons (s_while PassesOwn.never (d_tcmp k_le (d_var 1) (d_var 0))
    (s_one (s_par (i := 1) (j := 2) rfl sc.nd (d_cons (d_op k_mul d_int (d_var 1)) (d_cons (d_op k_mul d_int (d_var 2)) d_nil)))))
    (s_cons (s_if (d_tcmp (k_neD (u64 hr)) (d_op k_mul d_int (d_call G_base_sum hg (hr.mono (by decide)) m_base_sum F_base_sum.kp b_base_sum .nil (fun _ => .nil) (d_cons (d_var 1) d_nil))) (d_op k_mul (d_var 1) (d_op k_sub (d_var 2) d_int)))
    (s_one (s_ret d_bl))
    s_nil)
    (s_cons (s_set 3 sc.nd (d_op k_sub (d_var 0) (d_op k_div (d_var 1) d_int)))
    (s_one (s_ret (d_vor (d_cmp (k_eqD (u64 hr)) (d_var 0) d_int) (d_vone (d_cmp (k_eqD (u64 hr)) (d_call G_base_sum hg (hr.mono (by decide)) m_base_sum F_base_sum.kp b_base_sum .nil (fun _ => .nil) (d_cons (d_var 0) d_nil)) (d_op k_add (d_op k_add (d_call G_base_sum hg (hr.mono (by decide)) m_base_sum F_base_sum.kp b_base_sum .nil (fun _ => .nil) (d_cons (d_op k_div (d_var 1) d_int) d_nil)) (d_call G_base_sum hg (hr.mono (by decide)) m_base_sum F_base_sum.kp b_base_sum .nil (fun _ => .nil) (d_cons (d_var 3) d_nil))) (d_op k_mul (d_var 3) (d_op k_div (d_var 2) d_int)))))))))))))⟩
/-! _law_mirror_right -/
def b__law_mirror_right : S → M Out := (sSeq (sPar 1 2 (aCons (dCallI 0 2 f__law_draw (aCons (dC (.int 200)) aNil)) (aCons (dC (.int 1)) aNil)))
    (sSeq (sFor (iR1 (aCons (dVar 1) aNil)) (gNm 3)
    (sSet 2 (dBin mulI (dC (.int 2)) (dVar 2))))
    (sSeq (sSet 4 (dBin ixL (dLst (aCons (dC (.int 0)) (aCons (dBin subI (dVar 2) (dC (.int 1))) (aCons (dCallI 0 2 f__law_draw (aCons (dVar 2) aNil)) aNil)))) (dCallI 0 2 f__law_draw (aCons (dC (.int 3)) aNil))))
    (sSeq (sSet 5 (dCallU 1 f_base_member [] (aCons (dVar 4) aNil)))
    (sSeq (sSet 6 (dLst (aCons (dCallU 2 f_mirror [] (aCons (dVar 5) (aCons (dVar 1) aNil))) (aCons (dCallK 2 0 2 f_mirror (fun as bs => as ++ sw2 bs) aNil (aCons (dVar 1) (aCons (dVar 5) aNil))) aNil))))
    (sSeq (sSet 7 (dCallU 1 f_base_member [] (aCons (dBin subI (dBin subI (dVar 2) (dC (.int 1))) (dVar 4)) aNil)))
    (sRet (vAnd (dBin eqS (dCall reprN (aCons (dVar 6) aNil)) (dCall reprN (aCons (dLst (aCons (dVar 7) (aCons (dVar 7) aNil))) aNil))) (vAnd (dBin eqD (dCallU 2 f_mirror [] (aCons (dVar 7) (aCons (dVar 1) aNil))) (dVar 5)) (dBin eqD (dCallU 1 f_base_rank [] (aCons (dVar 7) aNil)) (dBin subI (dBin subI (dVar 2) (dC (.int 1))) (dVar 4))))))))))))
def f__law_mirror_right : D → List D → M (D × D) := runI 8 b__law_mirror_right
theorem sc__law_mirror_right : FnScope ["_law_stream_here", "_law_size", "_law_half", "_law_turn", "_law_order", "_law_member", "_law_told", "_law_due"] ["_law_stream_here"] (defScope (top 27)) := ⟨rfl, rfl, rfl, by decide +kernel, rfl, by decide +kernel, by decide +kernel⟩
abbrev D__law_mirror_right (K : PySem.W.Frag) (fd : FuncData) : Prop := FunD K "_law_mirror_right" "_law_mirror_right" (defArgs (top 27)) (defBody (top 27)) (defScope (top 27)) [] [] (He.ga K "_law_mirror_right") fd
theorem ok__law_mirror_right {P : Program} {w : World} {K : PySem.W.Frag} {mg : Str → Option Value} {base : Heap} (Z : Ctx K mg) {fd : FuncData} (F : D__law_mirror_right K fd) : FnG P w K mg base CX0 4 (He.ga K "_law_mirror_right") fd ["_law_stream_here"] (spI K cl0 1 f__law_mirror_right) := by
  have fr_range : mg "range" = none := Z.fre "range" (by decide)
  have fr_repr : mg "repr" = none := Z.fre "repr" (by decide)
  obtain ⟨fd__law_draw, F__law_draw⟩ : ∃ fd, D__law_draw K fd := Z.says.def_ 16 (d := (dd "_law_draw" 22 [] [])) rfl
  have G__law_draw : FnG P w K mg base CX0 2 _ fd__law_draw ["_law_stream_here", "_law_top"] _ := ok__law_draw Z F__law_draw
  have m__law_draw : mg "_law_draw" = some (.ref (He.ga K "_law_draw")) := Z.glo 16 rfl
  obtain ⟨fd_base_member, F_base_member⟩ : ∃ fd, D_base_member K fd := Z.says.def_ 9 (d := (dd "base_member" 14 [] [])) rfl
  have G_base_member : FnG P w K mg base CX0 3 _ fd_base_member ["number"] _ := ok_base_member Z F_base_member
  have m_base_member : mg "base_member" = some (.ref (He.ga K "base_member")) := Z.glo 9 rfl
  obtain ⟨fd_mirror, F_mirror⟩ : ∃ fd, D_mirror K fd := Z.says.def_ 13 (d := (dd "mirror" 18 [] [])) rfl
  have G_mirror : FnG P w K mg base CX0 3 _ fd_mirror ["x", "power"] _ := ok_mirror Z F_mirror
  have m_mirror : mg "mirror" = some (.ref (He.ga K "mirror")) := Z.glo 13 rfl
  obtain ⟨fd_base_rank, F_base_rank⟩ : ∃ fd, D_base_rank K fd := Z.says.def_ 10 (d := (dd "base_rank" 15 [] [])) rfl
  have G_base_rank : FnG P w K mg base CX0 3 _ fd_base_rank ["x"] _ := ok_base_rank Z F_base_rank
  have m_base_rank : mg "base_rank" = some (.ref (He.ga K "base_rank")) := Z.glo 10 rfl
  have b_base_member : Binds K fd_base_member ["number"] [] := F_base_member.bindsN fun _ _ _ _ _ _ us hl => match us, hl with | [_], _ => rfl
  have b_mirror_0_power_x := kbN F_mirror 0 ["power", "x"] (ps := ["x", "power"]) (fun as bs => as ++ sw2 bs) (fun a b => a.append (vals_sw2 b)) fun _ _ _ _ _ _ us ws h1 h2 => match us, ws, h1, h2 with | [], [_, _], _, _ => rfl
  have b_mirror : Binds K fd_mirror ["x", "power"] [] := F_mirror.bindsN fun _ _ _ _ _ _ us hl => match us, hl with | [_, _], _ => rfl
  have b_base_rank : Binds K fd_base_rank ["x"] [] := F_base_rank.bindsN fun _ _ _ _ _ _ us hl => match us, hl with | [_], _ => rfl
  have b__law_draw : Binds K fd__law_draw ["_law_stream_here", "_law_top"] [] := F__law_draw.bindsN fun _ _ _ _ _ _ us hl => match us, hl with | [_, _], _ => rfl
  have sc := sc__law_mirror_right
  refine okI F sc rfl rfl (by decide) (F := b__law_mirror_right) fun cdv A outer s H E hg hr => ?_
  exact ⟨_, (s_cons (s_par (i := 1) (j := 2) rfl sc.nd (d_cons (d_callI 0 G__law_draw hg (hr.mono (by decide)) m__law_draw F__law_draw.kp b__law_draw (d_cons d_int d_nil)) (d_cons d_int d_nil)))
    (s_cons (s_for PassesOwn.never (w_range1 fr_range (d_cons (d_var 1) d_nil)) (g_name 3 sc.nd)
    (s_one (s_set 2 sc.nd (d_op k_mul d_int (d_var 2)))))
    (s_cons (s_set 4 sc.nd (d_ixL (d_of (f_lst (d_cons d_int (d_cons (d_op k_sub (d_var 2) d_int) (d_cons (d_callI 0 G__law_draw hg (hr.mono (by decide)) m__law_draw F__law_draw.kp b__law_draw (d_cons (d_var 2) d_nil)) d_nil))))) (d_callI 0 G__law_draw hg (hr.mono (by decide)) m__law_draw F__law_draw.kp b__law_draw (d_cons d_int d_nil))))
    (s_cons (s_set 5 sc.nd (d_call G_base_member hg (hr.mono (by decide)) m_base_member F_base_member.kp b_base_member .nil (fun _ => .nil) (d_cons (d_var 4) d_nil)))
    (s_cons (s_set 6 sc.nd (d_of (f_lst (d_cons (d_call G_mirror hg (hr.mono (by decide)) m_mirror F_mirror.kp b_mirror .nil (fun _ => .nil) (d_cons (d_var 5) (d_cons (d_var 1) d_nil))) (d_cons (d_callK0 (ks := ["power", "x"]) (gD := (fun as bs => as ++ sw2 bs)) G_mirror hg (hr.mono (by decide)) m_mirror F_mirror.kp b_mirror_0_power_x (fun _ _ _ _ _ a b => a.append (rpA_sw2 b)) (k_cons (d_var 1) (k_cons (d_var 5) k_nil))) d_nil)))))
    (s_cons (s_set 7 sc.nd (d_call G_base_member hg (hr.mono (by decide)) m_base_member F_base_member.kp b_base_member .nil (fun _ => .nil) (d_cons (d_op k_sub (d_op k_sub (d_var 2) d_int) (d_var 4)) d_nil)))
    (s_one (s_ret (d_vand (d_cmp k_eqS (d_callB (c_repr hg (u64 hr)) fr_repr rfl (d_cons (d_var 6) d_nil)) (d_callB (c_repr hg (u64 hr)) fr_repr rfl (d_cons (d_of (f_lst (d_cons (d_var 7) (d_cons (d_var 7) d_nil)))) d_nil))) (d_vand (d_cmp (k_eqD (u64 hr)) (d_call G_mirror hg (hr.mono (by decide)) m_mirror F_mirror.kp b_mirror .nil (fun _ => .nil) (d_cons (d_var 7) (d_cons (d_var 1) d_nil))) (d_var 5)) (d_vone (d_cmp (k_eqD (u64 hr)) (d_call G_base_rank hg (hr.mono (by decide)) m_base_rank F_base_rank.kp b_base_rank .nil (fun _ => .nil) (d_cons (d_var 7) d_nil)) (d_op k_sub (d_op k_sub (d_var 2) d_int) (d_var 4))))))))))))))⟩
/-! _law_added_right -/
def b__law_added_right : S → M Out := (sSeq (sPar3 2 3 4 (aCons (dCallU 1 f_base_member [] (aCons (dVar 0) aNil)) (aCons (dCallU 1 f_base_member [] (aCons (dVar 1) aNil)) (aCons (dCallU 1 f_base_member [] (aCons (dBin addI (dVar 0) (dVar 1)) aNil)) aNil))))
    (sSeq (sSet 5 (dComp (iLst (dListZip (aCons (dCallU 2 f__law_digits [] (aCons (dVar 0) (aCons (dC (.int 2)) aNil))) (aCons (dCallU 2 f__law_digits [] (aCons (dVar 1) (aCons (dC (.int 2)) aNil))) aNil)))) [6] (gNm 6) (dTst (dBin eqD (dVar 6) (dTup (aCons (dC (.int 1)) (aCons (dC (.int 1)) aNil))))) (dC (.int 1))))
    (sRet (dIf (dTst (dBin eqD (dVar 5) (dLst aNil))) (dBin eqD (dBin addI (dVar 2) (dVar 3)) (dVar 4)) (dBin ltI (dBin addI (dVar 2) (dVar 3)) (dVar 4))))))
def f__law_added_right : FnD := runP 7 b__law_added_right
theorem sc__law_added_right : FnScope ["_law_one", "_law_two", "_law_left", "_law_right", "_law_whole", "_law_common", "_law_pair"] ["_law_one", "_law_two"] (defScope (top 28)) := ⟨rfl, rfl, rfl, by decide +kernel, rfl, by decide +kernel, by decide +kernel⟩
abbrev D__law_added_right (K : PySem.W.Frag) (fd : FuncData) : Prop := FunD K "_law_added_right" "_law_added_right" (defArgs (top 28)) (defBody (top 28)) (defScope (top 28)) [] [] (He.ga K "_law_added_right") fd
theorem ok__law_added_right {P : Program} {w : World} {K : PySem.W.Frag} {mg : Str → Option Value} {base : Heap} (Z : Ctx K mg) {fd : FuncData} (F : D__law_added_right K fd) : FnG P w K mg base CX0 4 (He.ga K "_law_added_right") fd ["_law_one", "_law_two"] (spP K cl0 2 f__law_added_right) := by
  have fr_list : mg "list" = none := Z.fre "list" (by decide)
  have fr_zip : mg "zip" = none := Z.fre "zip" (by decide)
  obtain ⟨fd_base_member, F_base_member⟩ : ∃ fd, D_base_member K fd := Z.says.def_ 9 (d := (dd "base_member" 14 [] [])) rfl
  have G_base_member : FnG P w K mg base CX0 3 _ fd_base_member ["number"] _ := ok_base_member Z F_base_member
  have m_base_member : mg "base_member" = some (.ref (He.ga K "base_member")) := Z.glo 9 rfl
  obtain ⟨fd__law_digits, F__law_digits⟩ : ∃ fd, D__law_digits K fd := Z.says.def_ 18 (d := (dd "_law_digits" 24 [] [])) rfl
  have G__law_digits : FnG P w K mg base CX0 1 _ fd__law_digits ["_law_given", "_law_radix"] _ := ok__law_digits Z F__law_digits
  have m__law_digits : mg "_law_digits" = some (.ref (He.ga K "_law_digits")) := Z.glo 18 rfl
  have b_base_member : Binds K fd_base_member ["number"] [] := F_base_member.bindsN fun _ _ _ _ _ _ us hl => match us, hl with | [_], _ => rfl
  have b__law_digits : Binds K fd__law_digits ["_law_given", "_law_radix"] [] := F__law_digits.bindsN fun _ _ _ _ _ _ us hl => match us, hl with | [_, _], _ => rfl
  have sc := sc__law_added_right
  refine okP F sc rfl rfl (F := b__law_added_right) fun cdv A outer s H E hg hr => ?_
  exact ⟨_, (s_cons (s_par3 (i := 2) (j := 3) (l := 4) rfl sc.nd (d_cons (d_call G_base_member hg (hr.mono (by decide)) m_base_member F_base_member.kp b_base_member .nil (fun _ => .nil) (d_cons (d_var 0) d_nil)) (d_cons (d_call G_base_member hg (hr.mono (by decide)) m_base_member F_base_member.kp b_base_member .nil (fun _ => .nil) (d_cons (d_var 1) d_nil)) (d_cons (d_call G_base_member hg (hr.mono (by decide)) m_base_member F_base_member.kp b_base_member .nil (fun _ => .nil) (d_cons (d_op k_add (d_var 0) (d_var 1)) d_nil)) d_nil))))
    (s_cons (s_setLc 5 (own := [("_law_pair", 6)]) rfl sc.nd (w_list (d_listzip hr fr_list fr_zip (d_cons (d_call G__law_digits hg (hr.mono (by decide)) m__law_digits F__law_digits.kp b__law_digits .nil (fun _ => .nil) (d_cons (d_var 0) (d_cons d_int d_nil))) (d_cons (d_call G__law_digits hg (hr.mono (by decide)) m__law_digits F__law_digits.kp b__law_digits .nil (fun _ => .nil) (d_cons (d_var 1) (d_cons d_int d_nil))) d_nil)))) (blkOk_by (N := ["_law_one", "_law_two", "_law_left", "_law_right", "_law_whole", "_law_common", "_law_pair"]) (sc := defScope (top 28)) (by decide +kernel)) (fun _ _ _ _ _ => (g_name 6 sc.nd)) (fun _ _ _ _ _ => (t_one (d_tcmp (k_eqD (u64 hr)) (d_var 6) (d_tup (d_cons d_int (d_cons d_int d_nil)))))) (fun _ _ _ _ _ => d_int) (by decide))
    (s_one (s_ret (d_ifx (d_tcmp (k_eqD (u64 hr)) (d_var 5) (d_of (f_lst d_nil))) (d_cmp (k_eqD (u64 hr)) (d_op k_add (d_var 2) (d_var 3)) (d_var 4)) (d_cmp k_lt (d_op k_add (d_var 2) (d_var 3)) (d_var 4)))))))⟩
/-! law -/
def b_law : S → M Out := (sSeq (sSet 1 (dComp (iR1 (aCons (dC (.int 70)) aNil)) [2] (gNm 2) tTrue (dCallU 1 f_base_member [] (aCons (dVar 2) aNil))))
    (sSeq (sIf (dTst (dBin neD (dComp (iR1 (aCons (dC (.int 70)) aNil)) [2] (gNm 2) tTrue (dCallU 1 f_base_sum [] (aCons (dVar 2) aNil))) (dComp (iR1 (aCons (dC (.int 70)) aNil)) [2] (gNm 2) tTrue (dCall sumN (aCons (dCutL (dVar 1) partNo (partAt (dVar 2))) aNil)))))
    (sRet (dC (.bl false)))
    sNil)
    (sSeq (sFor (iEn (aCons (dCutL (dBin catL (dVar 0) (dLst (aCons (dC (.int 0)) aNil))) partNo (partAt (dC (.int 9)))) aNil)) (gTp (gsCons (gNm 3) (gsCons (gNm 4) gsNil)))
    (sSeq (sOwn 5 (dCallU 2 f__law_stream [] (aCons (dVar 4) (aCons (dVar 3) aNil))))
    (sFor (iR1 (aCons (dC (.int 3)) aNil)) (gNm 6)
    (sSeq (sPar 7 8 (aCons (dCallI 5 1 f__law_number aNil) (aCons (dCallI 5 1 f__law_number aNil) aNil)))
    (sSeq (sIf (dOr (dNot (dTst (dCallU 1 f__law_gap_right [] (aCons (dBin addI (dVar 7) (dC (.int 1))) aNil)))) (dOr (dNot (dTst (dCallU 1 f__law_sum_right [] (aCons (dVar 8) aNil)))) (dNot (dTst (dCallU 2 f__law_added_right [] (aCons (dVar 7) (aCons (dVar 8) aNil)))))))
    (sRet (dC (.bl false)))
    sNil)
    (sIf (dOr (dNot (dTst (dCallI 5 1 f__law_mirror_right aNil))) (dNot (dTst (dCallU 2 f__law_added_right [] (aCons (dVar 7) (aCons (dCallI 5 2 f__law_draw (aCons (dC (.int 64)) aNil)) aNil))))))
    (sRet (dC (.bl false)))
    sNil))))))
    (sSeq (sSet 9 (dC (.int 1)))
    (sSeq (sFor (iR1 (aCons (dC (.int 2000)) aNil)) (gNm 6)
    (sSet 9 (dBin mulI (dC (.int 3)) (dVar 9))))
    (sRet (dBin eqD (dLst (aCons (dCallU 2 f_mirror [] (aCons (dC (.int 0)) (aCons (dC (.int 2000)) aNil))) (aCons (dCallU 2 f_mirror [] (aCons (dC (.int 10)) (aCons (dC (.int 2000)) aNil))) aNil))) (dLst (aCons (dBin divI (dBin subI (dVar 9) (dC (.int 1))) (dC (.int 2))) (aCons (dBin subI (dBin divI (dBin subI (dVar 9) (dC (.int 1))) (dC (.int 2))) (dC (.int 10))) aNil))))))))))
def f_law : FnD := runP 10 b_law
theorem sc_law : FnScope ["_law_script", "_law_plain", "_law_order", "_law_k", "_law_item", "_law_stream_here", "_law_turn", "_law_one", "_law_two", "_law_great"] ["_law_script"] (defScope (top 29)) := ⟨rfl, rfl, rfl, by decide +kernel, rfl, by decide +kernel, by decide +kernel⟩
abbrev D_law (K : PySem.W.Frag) (fd : FuncData) : Prop := FunD K "law" "law" (defArgs (top 29)) (defBody (top 29)) (defScope (top 29)) [] [] (He.ga K "law") fd
theorem ok_law {P : Program} {w : World} {K : PySem.W.Frag} {mg : Str → Option Value} {base : Heap} (Z : Ctx K mg) {fd : FuncData} (F : D_law K fd) : FnG P w K mg base CX0 5 (He.ga K "law") fd ["_law_script"] (spP K cl0 1 f_law) := by
  have fr_range : mg "range" = none := Z.fre "range" (by decide)
  have fr_sum : mg "sum" = none := Z.fre "sum" (by decide)
  have fr_enumerate : mg "enumerate" = none := Z.fre "enumerate" (by decide)
  obtain ⟨fd_base_member, F_base_member⟩ : ∃ fd, D_base_member K fd := Z.says.def_ 9 (d := (dd "base_member" 14 [] [])) rfl
  have G_base_member : FnG P w K mg base CX0 3 _ fd_base_member ["number"] _ := ok_base_member Z F_base_member
  have m_base_member : mg "base_member" = some (.ref (He.ga K "base_member")) := Z.glo 9 rfl
  obtain ⟨fd_base_sum, F_base_sum⟩ : ∃ fd, D_base_sum K fd := Z.says.def_ 12 (d := (dd "base_sum" 17 [] [])) rfl
  have G_base_sum : FnG P w K mg base CX0 3 _ fd_base_sum ["number"] _ := ok_base_sum Z F_base_sum
  have m_base_sum : mg "base_sum" = some (.ref (He.ga K "base_sum")) := Z.glo 12 rfl
  obtain ⟨fd__law_stream, F__law_stream⟩ : ∃ fd, D__law_stream K fd := Z.says.def_ 15 (d := (dd "_law_stream" 21 [] [])) rfl
  have G__law_stream : FnG P w K mg base CX0 2 _ fd__law_stream ["_law_item", "_law_k"] _ := ok__law_stream Z F__law_stream
  have m__law_stream : mg "_law_stream" = some (.ref (He.ga K "_law_stream")) := Z.glo 15 rfl
  obtain ⟨fd__law_number, F__law_number⟩ : ∃ fd, D__law_number K fd := Z.says.def_ 17 (d := (dd "_law_number" 23 [] [])) rfl
  have G__law_number : FnG P w K mg base CX0 3 _ fd__law_number ["_law_stream_here"] _ := ok__law_number Z F__law_number
  have m__law_number : mg "_law_number" = some (.ref (He.ga K "_law_number")) := Z.glo 17 rfl
  obtain ⟨fd__law_added_right, F__law_added_right⟩ : ∃ fd, D__law_added_right K fd := Z.says.def_ 22 (d := (dd "_law_added_right" 28 [] [])) rfl
  have G__law_added_right : FnG P w K mg base CX0 4 _ fd__law_added_right ["_law_one", "_law_two"] _ := ok__law_added_right Z F__law_added_right
  have m__law_added_right : mg "_law_added_right" = some (.ref (He.ga K "_law_added_right")) := Z.glo 22 rfl
  obtain ⟨fd__law_sum_right, F__law_sum_right⟩ : ∃ fd, D__law_sum_right K fd := Z.says.def_ 20 (d := (dd "_law_sum_right" 26 [] [])) rfl
  have G__law_sum_right : FnG P w K mg base CX0 4 _ fd__law_sum_right ["_law_order"] _ := ok__law_sum_right Z F__law_sum_right
  have m__law_sum_right : mg "_law_sum_right" = some (.ref (He.ga K "_law_sum_right")) := Z.glo 20 rfl
  obtain ⟨fd__law_gap_right, F__law_gap_right⟩ : ∃ fd, D__law_gap_right K fd := Z.says.def_ 19 (d := (dd "_law_gap_right" 25 [] [])) rfl
  have G__law_gap_right : FnG P w K mg base CX0 4 _ fd__law_gap_right ["_law_order"] _ := ok__law_gap_right Z F__law_gap_right
  have m__law_gap_right : mg "_law_gap_right" = some (.ref (He.ga K "_law_gap_right")) := Z.glo 19 rfl
  obtain ⟨fd__law_draw, F__law_draw⟩ : ∃ fd, D__law_draw K fd := Z.says.def_ 16 (d := (dd "_law_draw" 22 [] [])) rfl
  have G__law_draw : FnG P w K mg base CX0 2 _ fd__law_draw ["_law_stream_here", "_law_top"] _ := ok__law_draw Z F__law_draw
  have m__law_draw : mg "_law_draw" = some (.ref (He.ga K "_law_draw")) := Z.glo 16 rfl
  obtain ⟨fd__law_mirror_right, F__law_mirror_right⟩ : ∃ fd, D__law_mirror_right K fd := Z.says.def_ 21 (d := (dd "_law_mirror_right" 27 [] [])) rfl
  have G__law_mirror_right : FnG P w K mg base CX0 4 _ fd__law_mirror_right ["_law_stream_here"] _ := ok__law_mirror_right Z F__law_mirror_right
  have m__law_mirror_right : mg "_law_mirror_right" = some (.ref (He.ga K "_law_mirror_right")) := Z.glo 21 rfl
  obtain ⟨fd_mirror, F_mirror⟩ : ∃ fd, D_mirror K fd := Z.says.def_ 13 (d := (dd "mirror" 18 [] [])) rfl
  have G_mirror : FnG P w K mg base CX0 3 _ fd_mirror ["x", "power"] _ := ok_mirror Z F_mirror
  have m_mirror : mg "mirror" = some (.ref (He.ga K "mirror")) := Z.glo 13 rfl
  have b_base_member : Binds K fd_base_member ["number"] [] := F_base_member.bindsN fun _ _ _ _ _ _ us hl => match us, hl with | [_], _ => rfl
  have b_base_sum : Binds K fd_base_sum ["number"] [] := F_base_sum.bindsN fun _ _ _ _ _ _ us hl => match us, hl with | [_], _ => rfl
  have b__law_stream : Binds K fd__law_stream ["_law_item", "_law_k"] [] := F__law_stream.bindsN fun _ _ _ _ _ _ us hl => match us, hl with | [_, _], _ => rfl
  have b__law_added_right : Binds K fd__law_added_right ["_law_one", "_law_two"] [] := F__law_added_right.bindsN fun _ _ _ _ _ _ us hl => match us, hl with | [_, _], _ => rfl
  have b__law_sum_right : Binds K fd__law_sum_right ["_law_order"] [] := F__law_sum_right.bindsN fun _ _ _ _ _ _ us hl => match us, hl with | [_], _ => rfl
  have b__law_gap_right : Binds K fd__law_gap_right ["_law_order"] [] := F__law_gap_right.bindsN fun _ _ _ _ _ _ us hl => match us, hl with | [_], _ => rfl
  have b_mirror : Binds K fd_mirror ["x", "power"] [] := F_mirror.bindsN fun _ _ _ _ _ _ us hl => match us, hl with | [_, _], _ => rfl
  have b__law_number : Binds K fd__law_number ["_law_stream_here"] [] := F__law_number.bindsN fun _ _ _ _ _ _ us hl => match us, hl with | [_], _ => rfl
  have b__law_draw : Binds K fd__law_draw ["_law_stream_here", "_law_top"] [] := F__law_draw.bindsN fun _ _ _ _ _ _ us hl => match us, hl with | [_, _], _ => rfl
  have b__law_mirror_right : Binds K fd__law_mirror_right ["_law_stream_here"] [] := F__law_mirror_right.bindsN fun _ _ _ _ _ _ us hl => match us, hl with | [_], _ => rfl
  have sc := sc_law
  refine okP F sc rfl rfl (F := b_law) fun cdv A outer s H E hg hr => ?_
  exact ⟨_, (s_cons (s_set 1 sc.nd (d_of (f_comp (own := [("_law_order", 2)]) rfl sc.nd (w_range1 fr_range (d_cons d_int d_nil)) (blkOk_by (N := ["_law_script", "_law_plain", "_law_order", "_law_k", "_law_item", "_law_stream_here", "_law_turn", "_law_one", "_law_two", "_law_great"]) (sc := defScope (top 29)) (by decide +kernel)) (fun _ _ _ _ _ => (g_name 2 sc.nd)) (fun _ _ _ _ _ => t_nil) (fun _ _ _ _ _ => (d_call G_base_member hg (hr.mono (by decide)) m_base_member F_base_member.kp b_base_member .nil (fun _ => .nil) (d_cons (d_var 2) d_nil))) (by decide))))
    (s_cons (s_if (d_tcmp (k_neD (u64 hr)) (d_of (f_comp (own := [("_law_order", 2)]) rfl sc.nd (w_range1 fr_range (d_cons d_int d_nil)) (blkOk_by (N := ["_law_script", "_law_plain", "_law_order", "_law_k", "_law_item", "_law_stream_here", "_law_turn", "_law_one", "_law_two", "_law_great"]) (sc := defScope (top 29)) (by decide +kernel)) (fun _ _ _ _ _ => (g_name 2 sc.nd)) (fun _ _ _ _ _ => t_nil) (fun _ _ _ _ _ => (d_call G_base_sum hg (hr.mono (by decide)) m_base_sum F_base_sum.kp b_base_sum .nil (fun _ => .nil) (d_cons (d_var 2) d_nil))) (by decide))) (d_of (f_comp (own := [("_law_order", 2)]) rfl sc.nd (w_range1 fr_range (d_cons d_int d_nil)) (blkOk_by (N := ["_law_script", "_law_plain", "_law_order", "_law_k", "_law_item", "_law_stream_here", "_law_turn", "_law_one", "_law_two", "_law_great"]) (sc := defScope (top 29)) (by decide +kernel)) (fun _ _ _ _ _ => (g_name 2 sc.nd)) (fun _ _ _ _ _ => t_nil) (fun _ _ _ _ _ => (d_callB (c_sum rfl) fr_sum rfl (d_cons (d_of (f_cutL (d_var 1) o_none (o_some (d_var 2)))) d_nil))) (by decide))))
    (s_one (s_ret d_bl))
    s_nil)
    (s_cons (s_for PassesOwn.never (w_enum fr_enumerate (d_cons (d_of (f_cutL (d_op k_catL (d_var 0) (d_of (f_lst (d_cons d_int d_nil)))) o_none (o_some d_int))) d_nil)) (g_tup rfl (gs_cons (g_name 3 sc.nd) (gs_cons (g_name 4 sc.nd) gs_nil)) 2 (gsl_cons (gsl_cons gsl_nil)))
    (s_cons (s_own 5 sc.nd (f_call G__law_stream hg (hr.mono (by decide)) m__law_stream F__law_stream.kp b__law_stream .nil (fun _ => .nil) (d_cons (d_var 4) (d_cons (d_var 3) d_nil))))
    (s_one (s_for PassesOwn.never (w_range1 fr_range (d_cons d_int d_nil)) (g_name 6 sc.nd)
    (s_cons (s_par (i := 7) (j := 8) rfl sc.nd (d_cons (d_callI 5 G__law_number hg (hr.mono (by decide)) m__law_number F__law_number.kp b__law_number d_nil) (d_cons (d_callI 5 G__law_number hg (hr.mono (by decide)) m__law_number F__law_number.kp b__law_number d_nil) d_nil)))
    (s_cons (s_if (d_or (d_not (d_tst (d_call G__law_gap_right hg (hr.mono (by decide)) m__law_gap_right F__law_gap_right.kp b__law_gap_right .nil (fun _ => .nil) (d_cons (d_op k_add (d_var 7) d_int) d_nil)))) (d_or (d_not (d_tst (d_call G__law_sum_right hg (hr.mono (by decide)) m__law_sum_right F__law_sum_right.kp b__law_sum_right .nil (fun _ => .nil) (d_cons (d_var 8) d_nil)))) (d_or1 (d_not (d_tst (d_call G__law_added_right hg (hr.mono (by decide)) m__law_added_right F__law_added_right.kp b__law_added_right .nil (fun _ => .nil) (d_cons (d_var 7) (d_cons (d_var 8) d_nil)))))))).pt
    (s_one (s_ret d_bl))
    s_nil)
    (s_one (s_if (d_or (d_not (d_tst (d_callI 5 G__law_mirror_right hg (hr.mono (by decide)) m__law_mirror_right F__law_mirror_right.kp b__law_mirror_right d_nil))) (d_or1 (d_not (d_tst (d_call G__law_added_right hg (hr.mono (by decide)) m__law_added_right F__law_added_right.kp b__law_added_right .nil (fun _ => .nil) (d_cons (d_var 7) (d_cons (d_callI 5 G__law_draw hg (hr.mono (by decide)) m__law_draw F__law_draw.kp b__law_draw (d_cons d_int d_nil)) d_nil))))))).pt
    (s_one (s_ret d_bl))
    s_nil))))))))
    (s_cons (s_set 9 sc.nd d_int)
    (s_cons (s_for PassesOwn.never (w_range1 fr_range (d_cons d_int d_nil)) (g_name 6 sc.nd)
    (s_one (s_set 9 sc.nd (d_op k_mul d_int (d_var 9)))))
    (s_one (s_ret (d_cmp (k_eqD (u64 hr)) (d_of (f_lst (d_cons (d_call G_mirror hg (hr.mono (by decide)) m_mirror F_mirror.kp b_mirror .nil (fun _ => .nil) (d_cons d_int (d_cons d_int d_nil))) (d_cons (d_call G_mirror hg (hr.mono (by decide)) m_mirror F_mirror.kp b_mirror .nil (fun _ => .nil) (d_cons d_int (d_cons d_int d_nil))) d_nil)))) (d_of (f_lst (d_cons (d_op k_div (d_op k_sub (d_var 9) d_int) d_int) (d_cons (d_op k_sub (d_op k_div (d_op k_sub (d_var 9) d_int) d_int) d_int) d_nil))))))))))))⟩
end Tf
end
noncomputable section
namespace Tf
open PySem Dt
theorem e_is_int (i : Int) : f_is_integer [.int i, .non, .non] = ok (.bl true) := by
  simp only [f_is_integer, b_is_integer, runP, runF, runI, sSeq, sSet, sRet, sRetF, sRetN, sIf, sAsg, sPar, sPar3, sExpr, sNil, sNever, sPub, sOwn, sApp, sPut, dBin, dVar, dC, dTst, dNot, dAnd, dOr, vAnd, vOr, vNot, dIf, dTup, dLst, aNil, aCons, dCall, dCallU, dCallK, dCallI, dIsi, dOwnIx, gNm, gTp, gsNil, gsCons, iR1, iEn, iLst, dListZip, dRep, ownL, ownD, putL, putD, pubS, bd_ok', v_add, v_sub, v_lt, v_le, v_gt, v_ge, v_is0, v_is1, v_eqI, v_neI, v_isII, v_isBI, List.map_cons, List.map_nil, List.cons_append, List.nil_append, List.append_nil, List.length_cons, List.length_nil, List.replicate, List.getElem?_cons_zero, List.getElem?_cons_succ, List.set_cons_zero, List.set_cons_succ, if_true, if_false, Nat.reduceAdd, Nat.reduceSub, Nat.reduceEqDiff, Bool.false_eq_true, Bool.not_true, Bool.not_false, decide_true, decide_false, and_self]
theorem e_is_int0 (i : Int) (h : 0 ≤ i) : f_is_integer [.int i, .int 0, .non] = ok (.bl true) := by
  simp only [f_is_integer, b_is_integer, runP, runF, runI, sSeq, sSet, sRet, sRetF, sRetN, sIf, sAsg, sPar, sPar3, sExpr, sNil, sNever, sPub, sOwn, sApp, sPut, dBin, dVar, dC, dTst, dNot, dAnd, dOr, vAnd, vOr, vNot, dIf, dTup, dLst, aNil, aCons, dCall, dCallU, dCallK, dCallI, dIsi, dOwnIx, gNm, gTp, gsNil, gsCons, iR1, iEn, iLst, dListZip, dRep, ownL, ownD, putL, putD, pubS, bd_ok', v_add, v_sub, v_lt, v_le, v_gt, v_ge, v_is0, v_is1, v_eqI, v_neI, v_isII, v_isBI, List.map_cons, List.map_nil, List.cons_append, List.nil_append, List.append_nil, List.length_cons, List.length_nil, List.replicate, List.getElem?_cons_zero, List.getElem?_cons_succ, List.set_cons_zero, List.set_cons_succ, if_true, if_false, Nat.reduceAdd, Nat.reduceSub, Nat.reduceEqDiff, Bool.false_eq_true, Bool.not_true, Bool.not_false, decide_true, decide_false, and_self, h]
theorem e_check (i : Int) (h : 0 ≤ i) : f_check_number [.int i, .int 0, .non] = ok .non := by
  simp only [f_check_number, b_check_number, runP, runF, runI, sSeq, sSet, sRet, sRetF, sRetN, sIf, sAsg, sPar, sPar3, sExpr, sNil, sNever, sPub, sOwn, sApp, sPut, dBin, dVar, dC, dTst, dNot, dAnd, dOr, vAnd, vOr, vNot, dIf, dTup, dLst, aNil, aCons, dCall, dCallU, dCallK, dCallI, dIsi, dOwnIx, gNm, gTp, gsNil, gsCons, iR1, iEn, iLst, dListZip, dRep, ownL, ownD, putL, putD, pubS, bd_ok', v_add, v_sub, v_lt, v_le, v_gt, v_ge, v_is0, v_is1, v_eqI, v_neI, v_isII, v_isBI, List.map_cons, List.map_nil, List.cons_append, List.nil_append, List.append_nil, List.length_cons, List.length_nil, List.replicate, List.getElem?_cons_zero, List.getElem?_cons_succ, List.set_cons_zero, List.set_cons_succ, if_true, if_false, Nat.reduceAdd, Nat.reduceSub, Nat.reduceEqDiff, Bool.false_eq_true, Bool.not_true, Bool.not_false, decide_true, decide_false, and_self, e_is_int0 i h]
theorem pow10 (n : Nat) (h : n ≤ 1000000) : powI (.int 10) (.int n) = ok (.int (10 ^ n)) := by
  rw [v_pow]
  · rfl
  · refine ⟨by omega, by omega, by decide⟩
def mixed (a k : Int) : Int := ((a % 2147483647 + 7919 * k * k + 31 * k) * 48271 % 2147483647) * (69621 + 2 * k) % 2147483629
theorem mixed_pos (a k : Int) : 0 ≤ mixed a k ∧ mixed a k < 2147483629 := ⟨Int.emod_nonneg _ (by decide), Int.emod_lt_of_pos _ (by decide)⟩
theorem e_mixed (a k : Int) (h0 : 0 ≤ k) (hk : k < 2 ^ 60) : f__law_mixed [.int a, .int k] = ok (.int (mixed a k)) := by
  have h1 : -(2 ^ 64) < k := by omega
  have h2 : k < 2 ^ 64 := by omega
  have h3 := Int.emod_nonneg ((a % 2147483647 + 7919 * k * k + 31 * k) * 48271) (show (2147483647 : Int) ≠ 0 by decide)
  have h4 := Int.emod_lt_of_pos ((a % 2147483647 + 7919 * k * k + 31 * k) * 48271) (show (0 : Int) < 2147483647 by decide)
  have h5 : -(2 ^ 64) < (a % 2147483647 + 7919 * k * k + 31 * k) * 48271 % 2147483647 := by omega
  have h6 : (a % 2147483647 + 7919 * k * k + 31 * k) * 48271 % 2147483647 < 2 ^ 64 := by omega
  simp only [f__law_mixed, b__law_mixed, runP, runF, runI, sSeq, sSet, sRet, sRetF, sRetN, sIf, sAsg, sPar, sPar3, sExpr, sNil, sNever, sPub, sOwn, sApp, sPut, dBin, dVar, dC, dTst, dNot, dAnd, dOr, vAnd, vOr, vNot, dIf, dTup, dLst, aNil, aCons, dCall, dCallU, dCallK, dCallI, dIsi, dOwnIx, gNm, gTp, gsNil, gsCons, iR1, iEn, iLst, dListZip, dRep, ownL, ownD, putL, putD, pubS, bd_ok', v_add, v_sub, v_lt, v_le, v_gt, v_ge, v_is0, v_is1, v_eqI, v_neI, v_isII, v_isBI, List.map_cons, List.map_nil, List.cons_append, List.nil_append, List.append_nil, List.length_cons, List.length_nil, List.replicate, List.getElem?_cons_zero, List.getElem?_cons_succ, List.set_cons_zero, List.set_cons_succ, if_true, if_false, Nat.reduceAdd, Nat.reduceSub, Nat.reduceEqDiff, Bool.false_eq_true, Bool.not_true, Bool.not_false, decide_true, decide_false, and_self, v_mod (show (0 : Int) < 2147483647 by decide), v_mod (show (0 : Int) < 2147483629 by decide), v_mulL (show -(2 ^ 64) < (7919 : Int) by decide) (show (7919 : Int) < 2 ^ 64 by decide), v_mulL (show -(2 ^ 64) < (31 : Int) by decide) (show (31 : Int) < 2 ^ 64 by decide),
    v_mulL (show -(2 ^ 64) < (2 : Int) by decide) (show (2 : Int) < 2 ^ 64 by decide), v_mulR (show -(2 ^ 64) < (48271 : Int) by decide) (show (48271 : Int) < 2 ^ 64 by decide), v_mulR h1 h2, v_mulL h5 h6]
  rfl
/-- a stream of draws, its counter at most n -/
def Strm (n : Nat) (d : D) : Prop := ∃ a c m : Int, d = .lst [.int a, .int c, .int m] ∧ 0 ≤ a ∧ 0 ≤ c ∧ c ≤ n
theorem Strm.mono {n m : Nat} {d : D} (h : Strm n d) (l : n ≤ m) : Strm m d := by
  obtain ⟨a, c, x, e, h1, h2, h3⟩ := h
  exact ⟨a, c, x, e, h1, h2, by omega⟩
theorem three {x y z : D} : [x, y, z].length ≤ sizeLine := by
  show 3 ≤ 2 ^ 24
  decide
theorem e_stream (a k : Int) (h0 : 0 ≤ k) (hk : k < 2 ^ 60) : ∃ d, f__law_stream [.int a, .int k] = ok d ∧ Strm 0 d := by
  have hp := pow10 18 (by decide)
  have ht : 0 + 1 + 1 + 1 ≤ sizeLine := by
    show 3 ≤ 2 ^ 24
    decide
  by_cases h : (10 : Int) ^ 18 ≤ a
  · refine ⟨.lst [.int a, .int 0, .int (mixed a k)], ?_, a, 0, _, rfl, by omega, by omega, by omega⟩
    simp only [f__law_stream, b__law_stream, runP, runF, runI, sSeq, sSet, sRet, sRetF, sRetN, sIf, sAsg, sPar, sPar3, sExpr, sNil, sNever, sPub, sOwn, sApp, sPut, dBin, dVar, dC, dTst, dNot, dAnd, dOr, vAnd, vOr, vNot, dIf, dTup, dLst, aNil, aCons, dCall, dCallU, dCallK, dCallI, dIsi, dOwnIx, gNm, gTp, gsNil, gsCons, iR1, iEn, iLst, dListZip, dRep, ownL, ownD, putL, putD, pubS, bd_ok', v_add, v_sub, v_lt, v_le, v_gt, v_ge, v_is0, v_is1, v_eqI, v_neI, v_isII, v_isBI, List.map_cons, List.map_nil, List.cons_append, List.nil_append, List.append_nil, List.length_cons, List.length_nil, List.replicate, List.getElem?_cons_zero, List.getElem?_cons_succ, List.set_cons_zero, List.set_cons_succ, if_true, if_false, Nat.reduceAdd, Nat.reduceSub, Nat.reduceEqDiff, Bool.false_eq_true, Bool.not_true, Bool.not_false, decide_true, decide_false, and_self, show (18 : Int) = ((18 : Nat) : Int) from rfl, hp, e_mixed a k h0 hk, h, three, ht]
  · refine ⟨.lst [.int 0, .int 0, .int (mixed a k)], ?_, 0, 0, _, rfl, by omega, by omega, by omega⟩
    simp only [f__law_stream, b__law_stream, runP, runF, runI, sSeq, sSet, sRet, sRetF, sRetN, sIf, sAsg, sPar, sPar3, sExpr, sNil, sNever, sPub, sOwn, sApp, sPut, dBin, dVar, dC, dTst, dNot, dAnd, dOr, vAnd, vOr, vNot, dIf, dTup, dLst, aNil, aCons, dCall, dCallU, dCallK, dCallI, dIsi, dOwnIx, gNm, gTp, gsNil, gsCons, iR1, iEn, iLst, dListZip, dRep, ownL, ownD, putL, putD, pubS, bd_ok', v_add, v_sub, v_lt, v_le, v_gt, v_ge, v_is0, v_is1, v_eqI, v_neI, v_isII, v_isBI, List.map_cons, List.map_nil, List.cons_append, List.nil_append, List.append_nil, List.length_cons, List.length_nil, List.replicate, List.getElem?_cons_zero, List.getElem?_cons_succ, List.set_cons_zero, List.set_cons_succ, if_true, if_false, Nat.reduceAdd, Nat.reduceSub, Nat.reduceEqDiff, Bool.false_eq_true, Bool.not_true, Bool.not_false, decide_true, decide_false, and_self, show (18 : Int) = ((18 : Nat) : Int) from rfl, hp, e_mixed a k h0 hk, h, three, ht]
theorem at0 {x y z : D} : L2.atI [x, y, z] 0 = some x := rfl
theorem at1 {x y z : D} : L2.atI [x, y, z] 1 = some y := rfl
theorem at2 {x y z : D} : L2.atI [x, y, z] 2 = some z := rfl
theorem ix0 : L2.ixN 3 0 = some 0 := rfl
theorem ix1 : L2.ixN 3 1 = some 1 := rfl
theorem e_draw {n : Nat} {d : D} {top : Int} (h : Strm n d) (hn : n < 2 ^ 50) (ht : 0 < top) (hd : divOk top) : ∃ r d', f__law_draw d [.int top] = ok (.int r, d') ∧ 0 ≤ r ∧ r < top ∧ Strm (n + 1) d' := by
  obtain ⟨a, c, m, rfl, h1, h2, h3⟩ := h
  have e1 := e_mixed m (c + 1) (by omega) (by omega)
  have e2 := e_mixed (mixed m (c + 1)) 7 (by decide) (by decide)
  by_cases ha : a = 0
  · subst ha
    refine ⟨mixed (mixed m (c + 1)) 7 % top, .lst [.int 0, .int (c + 1), .int m], ?_, Int.emod_nonneg _ (by omega), Int.emod_lt_of_pos _ ht, 0, c + 1, m, rfl, by omega, by omega, by omega⟩
    simp only [f__law_draw, b__law_draw, runP, runF, runI, sSeq, sSet, sRet, sRetF, sRetN, sIf, sAsg, sPar, sPar3, sExpr, sNil, sNever, sPub, sOwn, sApp, sPut, dBin, dVar, dC, dTst, dNot, dAnd, dOr, vAnd, vOr, vNot, dIf, dTup, dLst, aNil, aCons, dCall, dCallU, dCallK, dCallI, dIsi, dOwnIx, gNm, gTp, gsNil, gsCons, iR1, iEn, iLst, dListZip, dRep, ownL, ownD, putL, putD, pubS, bd_ok', v_add, v_sub, v_lt, v_le, v_gt, v_ge, v_is0, v_is1, v_eqI, v_neI, v_isII, v_isBI, List.map_cons, List.map_nil, List.cons_append, List.nil_append, List.append_nil, List.length_cons, List.length_nil, List.replicate, List.getElem?_cons_zero, List.getElem?_cons_succ, List.set_cons_zero, List.set_cons_succ, if_true, if_false, Nat.reduceAdd, Nat.reduceSub, Nat.reduceEqDiff, Bool.false_eq_true, Bool.not_true, Bool.not_false, decide_true, decide_false, and_self, at0, at1, at2, ix0, ix1, e1, e2, v_mod ht]
  · refine ⟨a % top, .lst [.int (a / top), .int (c + 1), .int m], ?_, Int.emod_nonneg _ (by omega), Int.emod_lt_of_pos _ ht, a / top, c + 1, m, rfl, Int.ediv_nonneg h1 (by omega), by omega, by omega⟩
    simp only [f__law_draw, b__law_draw, runP, runF, runI, sSeq, sSet, sRet, sRetF, sRetN, sIf, sAsg, sPar, sPar3, sExpr, sNil, sNever, sPub, sOwn, sApp, sPut, dBin, dVar, dC, dTst, dNot, dAnd, dOr, vAnd, vOr, vNot, dIf, dTup, dLst, aNil, aCons, dCall, dCallU, dCallK, dCallI, dIsi, dOwnIx, gNm, gTp, gsNil, gsCons, iR1, iEn, iLst, dListZip, dRep, ownL, ownD, putL, putD, pubS, bd_ok', v_add, v_sub, v_lt, v_le, v_gt, v_ge, v_is0, v_is1, v_eqI, v_neI, v_isII, v_isBI, List.map_cons, List.map_nil, List.cons_append, List.nil_append, List.append_nil, List.length_cons, List.length_nil, List.replicate, List.getElem?_cons_zero, List.getElem?_cons_succ, List.set_cons_zero, List.set_cons_succ, if_true, if_false, Nat.reduceAdd, Nat.reduceSub, Nat.reduceEqDiff, Bool.false_eq_true, Bool.not_true, Bool.not_false, decide_true, decide_false, and_self, at0, at1, at2, ix0, ix1, e1, e2, v_mod ht, v_div hd, ha]
theorem divOk_nat {n : Nat} (h : 0 < n) (h2 : n < 2 ^ 9000) : divOk (n : Int) := by
  refine ⟨by omega, ?_⟩
  have : (n : Int).natAbs = n := rfl
  rw [this]
  exact (Nat.log2_lt (by omega)).mpr h2
theorem pw_lt {b n m : Nat} (hb : b ^ n < 2 ^ m) (hm : 2 ^ m ≤ 2 ^ 9000) : b ^ n < 2 ^ 9000 := Nat.lt_of_lt_of_le hb hm
theorem dv4 : divOk 4 := divOk_nat (n := 4) (by decide) (Nat.lt_of_lt_of_le (show 4 < 2 ^ 3 by decide) (Nat.pow_le_pow_right (by decide) (by decide)))
theorem dvSmall {n : Nat} (h : 0 < n) (h2 : n < 2 ^ 400) : divOk (n : Int) := divOk_nat h (Nat.lt_of_lt_of_le h2 (Nat.pow_le_pow_right (by decide) (by decide)))
/-- the number of a stream -/
theorem e_number {n : Nat} {d : D} (h : Strm n d) (hn : n < 2 ^ 49) : ∃ r d', f__law_number d [] = ok (.int r, d') ∧ 0 ≤ r ∧ r < 3 ^ 126 ∧ Strm (n + 130) d' := by
  obtain ⟨w, d1, e1, w0, w1, s1⟩ := e_draw (top := 4) h (by omega) (by decide) (dvSmall (n := 4) (by decide) (by decide))
  have p30 := pow10 30 (by decide)
  by_cases h0 : w = 0
  · subst h0
    obtain ⟨r, d2, e2, r0, r1, s2⟩ := e_draw (top := 100) s1 (by omega) (by decide) (dvSmall (n := 100) (by decide) (by decide))
    refine ⟨r, d2, ?_, r0, Int.lt_trans r1 (by decide), s2.mono (by omega)⟩
    simp only [f__law_number, b__law_number, runP, runF, runI, sSeq, sSet, sRet, sRetF, sRetN, sIf, sAsg, sPar, sPar3, sExpr, sNil, sNever, sPub, sOwn, sApp, sPut, dBin, dVar, dC, dTst, dNot, dAnd, dOr, vAnd, vOr, vNot, dIf, dTup, dLst, aNil, aCons, dCall, dCallU, dCallK, dCallI, dIsi, dOwnIx, gNm, gTp, gsNil, gsCons, iR1, iEn, iLst, dListZip, dRep, ownL, ownD, putL, putD, pubS, bd_ok', v_add, v_sub, v_lt, v_le, v_gt, v_ge, v_is0, v_is1, v_eqI, v_neI, v_isII, v_isBI, List.map_cons, List.map_nil, List.cons_append, List.nil_append, List.append_nil, List.length_cons, List.length_nil, List.replicate, List.getElem?_cons_zero, List.getElem?_cons_succ, List.set_cons_zero, List.set_cons_succ, if_true, if_false, Nat.reduceAdd, Nat.reduceSub, Nat.reduceEqDiff, Bool.false_eq_true, Bool.not_true, Bool.not_false, decide_true, decide_false, and_self, e1, e2]
  by_cases h1 : w = 1
  · subst h1
    obtain ⟨r, d2, e2, r0, r1, s2⟩ := e_draw (top := 10 ^ 30) s1 (by omega) (by decide) (dvSmall (n := 10 ^ 30) (by decide) (by decide))
    obtain ⟨q, d3, e3, q0, q1, s3⟩ := e_draw (top := 10 ^ 30) s2 (by omega) (by decide) (dvSmall (n := 10 ^ 30) (by decide) (by decide))
    have hr1 : -(2 ^ 64) < r := by omega
    refine ⟨r * 10 ^ 30 + q, d3, ?_, by omega, ?_, s3.mono (by omega)⟩
    · have hm : mulI (.int r) (.int (10 ^ 30)) = ok (.int (r * 10 ^ 30)) := by
        refine if_pos (.inr (.inr ?_))
        have a1 : r.natAbs < 2 ^ 100 := by omega
        have a2 : r.natAbs.log2 ≤ 100 := by
          by_cases z : r.natAbs = 0
          · rw [z]
            decide
          · exact Nat.le_of_lt ((Nat.log2_lt z).mpr a1)
        have a3 : (10 ^ 30 : Int).natAbs.log2 ≤ 100 := by decide
        omega
      simp only [f__law_number, b__law_number, runP, runF, runI, sSeq, sSet, sRet, sRetF, sRetN, sIf, sAsg, sPar, sPar3, sExpr, sNil, sNever, sPub, sOwn, sApp, sPut, dBin, dVar, dC, dTst, dNot, dAnd, dOr, vAnd, vOr, vNot, dIf, dTup, dLst, aNil, aCons, dCall, dCallU, dCallK, dCallI, dIsi, dOwnIx, gNm, gTp, gsNil, gsCons, iR1, iEn, iLst, dListZip, dRep, ownL, ownD, putL, putD, pubS, bd_ok', v_add, v_sub, v_lt, v_le, v_gt, v_ge, v_is0, v_is1, v_eqI, v_neI, v_isII, v_isBI, List.map_cons, List.map_nil, List.cons_append, List.nil_append, List.append_nil, List.length_cons, List.length_nil, List.replicate, List.getElem?_cons_zero, List.getElem?_cons_succ, List.set_cons_zero, List.set_cons_succ, if_true, if_false, Nat.reduceAdd, Nat.reduceSub, Nat.reduceEqDiff, Bool.false_eq_true, Bool.not_true, Bool.not_false, decide_true, decide_false, and_self, show (30 : Int) = ((30 : Nat) : Int) from rfl, p30, e1, e2, e3, hm, show ¬ (1 : Int) = 0 by decide]
    · have : (10 : Int) ^ 30 * 10 ^ 30 < 3 ^ 126 := by decide
      omega
  -- the loop
  obtain ⟨c, d2, e2, c0, c1, s2⟩ := e_draw (top := 120) s1 (by omega) (by decide) (dvSmall (n := 120) (by decide) (by decide))
  have hc : rngOk c := ⟨by omega, by omega⟩
  have len : (rangeD 0 c.toNat).length = c.toNat := rangeD_len _ _
  have loop : ∃ s', forL (gNm 3) (sSet 2 (dBin addI (dBin mulI (dC (.int 3)) (dVar 2)) (dIf (dTst (dBin eqD (dVar 1) (dC (.int 3)))) (dCallI 0 2 f__law_draw (aCons (dC (.int 2)) aNil)) (dC (.int 0))))) (rangeD 0 c.toNat) [.io d2, .val (.int w), .val (.int 1), .un] = ok (.nx s') ∧
      ∃ (dd : D) (f : Int) (x : Sl), s' = [.io dd, .val (.int w), .val (.int f), x] ∧ Strm (n + 2 + c.toNat) dd ∧ 0 ≤ f ∧ f + 1 ≤ 2 * 3 ^ c.toNat := by
    obtain ⟨s', e, dd, f, x, p1, p2, p3, p4⟩ := forL_inv (T := gNm 3) (F := sSet 2 (dBin addI (dBin mulI (dC (.int 3)) (dVar 2)) (dIf (dTst (dBin eqD (dVar 1) (dC (.int 3)))) (dCallI 0 2 f__law_draw (aCons (dC (.int 2)) aNil)) (dC (.int 0)))))
      (fun i s => ∃ (dd : D) (f : Int) (x : Sl), s = [.io dd, .val (.int w), .val (.int f), x] ∧ Strm (n + 2 + i) dd ∧ 0 ≤ f ∧ f + 1 ≤ 2 * 3 ^ i) (rangeD 0 c.toNat) 0 [.io d2, .val (.int w), .val (.int 1), .un] ⟨d2, 1, .un, rfl, s2, by decide, by decide⟩ (by
        rintro i d s hi ⟨dd, f, x, rfl, q1, q2, q3⟩
        have hi' : i < c.toNat := by
          (have := (List.getElem?_eq_some_iff.mp hi).1)
          rw [len] at this
          exact this
        rw [Nat.zero_add] at q1 q3 ⊢
        have q4 : (2 : Int) * 3 ^ (i + 1) = 3 * (2 * 3 ^ i) := by
          rw [Int.pow_succ]
          omega
        by_cases h3 : w = 3
        · subst h3
          obtain ⟨r, d3, e3, r0, r1, s3⟩ := e_draw (top := 2) q1 (by omega) (by decide) (dvSmall (n := 2) (by decide) (by decide))
          refine ⟨[.io dd, .val (.int 3), .val (.int f), .val d], [.io d3, .val (.int 3), .val (.int (3 * f + r)), .val d], rfl, ?_, d3, 3 * f + r, .val d, rfl, s3, by omega, by omega⟩
          simp only [runP, runF, runI, sSeq, sSet, sRet, sRetF, sRetN, sIf, sAsg, sPar, sPar3, sExpr, sNil, sNever, sPub, sOwn, sApp, sPut, dBin, dVar, dC, dTst, dNot, dAnd, dOr, vAnd, vOr, vNot, dIf, dTup, dLst, aNil, aCons, dCall, dCallU, dCallK, dCallI, dIsi, dOwnIx, gNm, gTp, gsNil, gsCons, iR1, iEn, iLst, dListZip, dRep, ownL, ownD, putL, putD, pubS, bd_ok', v_add, v_sub, v_lt, v_le, v_gt, v_ge, v_is0, v_is1, v_eqI, v_neI, v_isII, v_isBI, List.map_cons, List.map_nil, List.cons_append, List.nil_append, List.append_nil, List.length_cons, List.length_nil, List.replicate, List.getElem?_cons_zero, List.getElem?_cons_succ, List.set_cons_zero, List.set_cons_succ, if_true, if_false, Nat.reduceAdd, Nat.reduceSub, Nat.reduceEqDiff, Bool.false_eq_true, Bool.not_true, Bool.not_false, decide_true, decide_false, and_self, v_mulL (show -(2 ^ 64) < (3 : Int) by decide) (show (3 : Int) < 2 ^ 64 by decide), e3]
        · refine ⟨[.io dd, .val (.int w), .val (.int f), .val d], [.io dd, .val (.int w), .val (.int (3 * f + 0)), .val d], rfl, ?_, dd, 3 * f + 0, .val d, rfl, q1.mono (by omega), by omega, by omega⟩
          simp only [runP, runF, runI, sSeq, sSet, sRet, sRetF, sRetN, sIf, sAsg, sPar, sPar3, sExpr, sNil, sNever, sPub, sOwn, sApp, sPut, dBin, dVar, dC, dTst, dNot, dAnd, dOr, vAnd, vOr, vNot, dIf, dTup, dLst, aNil, aCons, dCall, dCallU, dCallK, dCallI, dIsi, dOwnIx, gNm, gTp, gsNil, gsCons, iR1, iEn, iLst, dListZip, dRep, ownL, ownD, putL, putD, pubS, bd_ok', v_add, v_sub, v_lt, v_le, v_gt, v_ge, v_is0, v_is1, v_eqI, v_neI, v_isII, v_isBI, List.map_cons, List.map_nil, List.cons_append, List.nil_append, List.append_nil, List.length_cons, List.length_nil, List.replicate, List.getElem?_cons_zero, List.getElem?_cons_succ, List.set_cons_zero, List.set_cons_succ, if_true, if_false, Nat.reduceAdd, Nat.reduceSub, Nat.reduceEqDiff, Bool.false_eq_true, Bool.not_true, Bool.not_false, decide_true, decide_false, and_self, v_mulL (show -(2 ^ 64) < (3 : Int) by decide) (show (3 : Int) < 2 ^ 64 by decide), h3])
    rw [len, Nat.zero_add] at p2 p4
    exact ⟨s', e, dd, f, x, p1, p2, p3, p4⟩
  obtain ⟨_, eL, d3, f, x, rfl, s3, f0, f1⟩ := loop
  obtain ⟨q, d4, e4, q0, q1, s4⟩ := e_draw (top := 3) s3 (by omega) (by decide) (dvSmall (n := 3) (by decide) (by decide))
  have pc : (3 : Int) ^ c.toNat ≤ 3 ^ 119 := by
    have z : (3 : Nat) ^ c.toNat ≤ 3 ^ 119 := Nat.pow_le_pow_right (by decide) (by omega)
    exact_mod_cast z
  have p126 : (2 : Int) * 3 ^ 119 + 10 < 3 ^ 126 := by decide
  refine ⟨if f + q - 1 > 0 then f + q - 1 else 0, d4, ?_, by split <;> omega, by split <;> omega, s4.mono (by omega)⟩
  simp only [f__law_number, b__law_number, sFor, max2N, runP, runF, runI, sSeq, sSet, sRet, sRetF, sRetN, sIf, sAsg, sPar, sPar3, sExpr, sNil, sNever, sPub, sOwn, sApp, sPut, dBin, dVar, dC, dTst, dNot, dAnd, dOr, vAnd, vOr, vNot, dIf, dTup, dLst, aNil, aCons, dCall, dCallU, dCallK, dCallI, dIsi, dOwnIx, gNm, gTp, gsNil, gsCons, iR1, iEn, iLst, dListZip, dRep, ownL, ownD, putL, putD, pubS, bd_ok', v_add, v_sub, v_lt, v_le, v_gt, v_ge, v_is0, v_is1, v_eqI, v_neI, v_isII, v_isBI, List.map_cons, List.map_nil, List.cons_append, List.nil_append, List.append_nil, List.length_cons, List.length_nil, List.replicate, List.getElem?_cons_zero, List.getElem?_cons_succ, List.set_cons_zero, List.set_cons_succ, if_true, if_false, Nat.reduceAdd, Nat.reduceSub, Nat.reduceEqDiff, Bool.false_eq_true, Bool.not_true, Bool.not_false, decide_true, decide_false, and_self, e1, e2, h0, h1, hc, eL, e4]
/-! ### digits -/
def dg (r n : Nat) : List Nat := if h : n = 0 ∨ r < 2 then [] else n % r :: dg r (n / r)
termination_by n
decreasing_by
  have h1 : n ≠ 0 := fun e => h (.inl e)
  exact Nat.div_lt_self (by omega) (by omega)
theorem dg_zero (r : Nat) : dg r 0 = [] := by
  rw [dg, dif_pos (.inl rfl)]
theorem dg_pos {r n : Nat} (hr : 2 ≤ r) (h : 0 < n) : dg r n = n % r :: dg r (n / r) := by
  rw [dg, dif_neg (by omega)]
theorem dg_len {r : Nat} (hr : 2 ≤ r) : ∀ (k n : Nat), n < r ^ k → (dg r n).length ≤ k
  | 0, n, h => by
    have : n = 0 := by simpa using h
    rw [this, dg_zero]
    exact Nat.le_refl _
  | k + 1, n, h => by
    by_cases z : n = 0
    · rw [z, dg_zero]
      exact Nat.zero_le _
    · rw [dg_pos hr (by omega), List.length_cons]
      have : n / r < r ^ k := by
        rw [Nat.div_lt_iff_lt_mul (by omega)]
        rw [Nat.pow_succ] at h
        exact h
      have := dg_len hr k (n / r) this
      omega
abbrev iN (ns : List Nat) : List D := iD (ns.map fun (k : Nat) => (k : Int))
theorem szl {n : Nat} (h : n ≤ 300) : n < sizeLine := by
  show n < 2 ^ 24
  omega
theorem digits_loop {r : Nat} (hr : 2 ≤ r) (hr2 : r < 2 ^ 20) : ∀ (k n : Nat) (acc : List Nat), n < r ^ k → acc.length + k ≤ 300 →
    sWhile (dTst (dBin gtI (dVar 0) (dC (.int 0)))) (sSeq (sApp 2 (dBin modI (dVar 0) (dVar 1))) (sSet 0 (dBin divI (dVar 0) (dVar 1)))) [.val (.int n), .val (.int r), .own (.lst (iN acc))] = ok (.nx [.val (.int 0), .val (.int r), .own (.lst (iN (acc ++ dg r n)))])
  | k, n, acc, h, hl => by
    by_cases z : n = 0
    · subst z
      rw [dg_zero, List.append_nil]
      refine while_end ?_
      simp only [runP, runF, runI, sSeq, sSet, sRet, sRetF, sRetN, sIf, sAsg, sPar, sPar3, sExpr, sNil, sNever, sPub, sOwn, sApp, sPut, dBin, dVar, dC, dTst, dNot, dAnd, dOr, vAnd, vOr, vNot, dIf, dTup, dLst, aNil, aCons, dCall, dCallU, dCallK, dCallI, dIsi, dOwnIx, gNm, gTp, gsNil, gsCons, iR1, iEn, iLst, dListZip, dRep, ownL, ownD, putL, putD, pubS, bd_ok', v_add, v_sub, v_lt, v_le, v_gt, v_ge, v_is0, v_is1, v_eqI, v_neI, v_isII, v_isBI, List.map_cons, List.map_nil, List.cons_append, List.nil_append, List.append_nil, List.length_cons, List.length_nil, List.replicate, List.getElem?_cons_zero, List.getElem?_cons_succ, List.set_cons_zero, List.set_cons_succ, if_true, if_false, Nat.reduceAdd, Nat.reduceSub, Nat.reduceEqDiff, Bool.false_eq_true, Bool.not_true, Bool.not_false, decide_true, decide_false, and_self]
      rfl
    · cases k with
      | zero => exact absurd (by simpa using h) z
      | succ k =>
        have q : n / r < r ^ k := by
          rw [Nat.div_lt_iff_lt_mul (by omega)]
          rw [Nat.pow_succ] at h
          exact h
        have ih := digits_loop hr hr2 k (n / r) (acc ++ [n % r]) q (by rw [List.length_append]; simp; omega)
        rw [List.append_assoc, List.singleton_append, ← dg_pos hr (by omega)] at ih
        have hd : divOk (r : Int) := divOk_nat (by omega) (Nat.lt_of_lt_of_le hr2 (Nat.pow_le_pow_right (by decide) (by decide)))
        have hp : (0 : Int) < r := by omega
        have hn : (0 : Int) < n := by omega
        have hz : (iN acc).length < sizeLine := by
          rw [List.length_map, List.length_map]
          exact szl (by omega)
        have e1 : iN acc ++ [.int ((n : Int) % r)] = iN (acc ++ [n % r]) := by
          simp
        have e2 : ((n : Int) / r) = ((n / r : Nat) : Int) := rfl
        refine while_go ?_ ?_ ih
        · simp only [runP, runF, runI, sSeq, sSet, sRet, sRetF, sRetN, sIf, sAsg, sPar, sPar3, sExpr, sNil, sNever, sPub, sOwn, sApp, sPut, dBin, dVar, dC, dTst, dNot, dAnd, dOr, vAnd, vOr, vNot, dIf, dTup, dLst, aNil, aCons, dCall, dCallU, dCallK, dCallI, dIsi, dOwnIx, gNm, gTp, gsNil, gsCons, iR1, iEn, iLst, dListZip, dRep, ownL, ownD, putL, putD, pubS, bd_ok', v_add, v_sub, v_lt, v_le, v_gt, v_ge, v_is0, v_is1, v_eqI, v_neI, v_isII, v_isBI, List.map_cons, List.map_nil, List.cons_append, List.nil_append, List.append_nil, List.length_cons, List.length_nil, List.replicate, List.getElem?_cons_zero, List.getElem?_cons_succ, List.set_cons_zero, List.set_cons_succ, if_true, if_false, Nat.reduceAdd, Nat.reduceSub, Nat.reduceEqDiff, Bool.false_eq_true, Bool.not_true, Bool.not_false, decide_true, decide_false, and_self, hn]
        · simp only [runP, runF, runI, sSeq, sSet, sRet, sRetF, sRetN, sIf, sAsg, sPar, sPar3, sExpr, sNil, sNever, sPub, sOwn, sApp, sPut, dBin, dVar, dC, dTst, dNot, dAnd, dOr, vAnd, vOr, vNot, dIf, dTup, dLst, aNil, aCons, dCall, dCallU, dCallK, dCallI, dIsi, dOwnIx, gNm, gTp, gsNil, gsCons, iR1, iEn, iLst, dListZip, dRep, ownL, ownD, putL, putD, pubS, bd_ok', v_add, v_sub, v_lt, v_le, v_gt, v_ge, v_is0, v_is1, v_eqI, v_neI, v_isII, v_isBI, List.map_cons, List.map_nil, List.cons_append, List.nil_append, List.append_nil, List.length_cons, List.length_nil, List.replicate, List.getElem?_cons_zero, List.getElem?_cons_succ, List.set_cons_zero, List.set_cons_succ, if_true, if_false, Nat.reduceAdd, Nat.reduceSub, Nat.reduceEqDiff, Bool.false_eq_true, Bool.not_true, Bool.not_false, decide_true, decide_false, and_self, v_mod hp, v_div hd, hz, e1, e2]
theorem e_digits {r : Nat} (hr : 2 ≤ r) (hr2 : r < 2 ^ 20) (n : Nat) (h : n < r ^ 300) : f__law_digits [.int n, .int r] = ok (.lst (iN (dg r n))) := by
  have e := digits_loop hr hr2 300 n [] h (by simp)
  have e : _ = ok (Out.nx [Sl.val (D.int 0), Sl.val (D.int r), Sl.own (D.lst (iN (dg r n)))]) := e
  simp only [iN, iD, List.map_nil] at e
  have h0 : 0 ≤ sizeLine := Nat.zero_le _
  simp only [f__law_digits, b__law_digits, runP, runF, runI, sSeq, sSet, sRet, sRetF, sRetN, sIf, sAsg, sPar, sPar3, sExpr, sNil, sNever, sPub, sOwn, sApp, sPut, dBin, dVar, dC, dTst, dNot, dAnd, dOr, vAnd, vOr, vNot, dIf, dTup, dLst, aNil, aCons, dCall, dCallU, dCallK, dCallI, dIsi, dOwnIx, gNm, gTp, gsNil, gsCons, iR1, iEn, iLst, dListZip, dRep, ownL, ownD, putL, putD, pubS, bd_ok', v_add, v_sub, v_lt, v_le, v_gt, v_ge, v_is0, v_is1, v_eqI, v_neI, v_isII, v_isBI, List.map_cons, List.map_nil, List.cons_append, List.nil_append, List.append_nil, List.length_cons, List.length_nil, List.replicate, List.getElem?_cons_zero, List.getElem?_cons_succ, List.set_cons_zero, List.set_cons_succ, if_true, if_false, Nat.reduceAdd, Nat.reduceSub, Nat.reduceEqDiff, Bool.false_eq_true, Bool.not_true, Bool.not_false, decide_true, decide_false, and_self, h0, e]
theorem digits_in_loop {r : Nat} (hr : 2 ≤ r) (hr2 : r < 2 ^ 20) : ∀ (k n : Nat) (acc : List Nat) (x : Sl), n < r ^ k → acc.length + k ≤ 300 →
    ∃ y, sWhile (dTst (dBin gtI (dVar 0) (dC (.int 0)))) (sSeq (sAsg (dCall divmodN (aCons (dVar 0) (aCons (dVar 1) aNil))) (gTp (gsCons (gNm 0) (gsCons (gNm 3) gsNil)))) (sApp 2 (dVar 3))) [.val (.int n), .val (.int r), .own (.lst (iN acc)), x] = ok (.nx [.val (.int 0), .val (.int r), .own (.lst (iN (acc ++ dg r n))), y])
  | k, n, acc, x, h, hl => by
    by_cases z : n = 0
    · subst z
      rw [dg_zero, List.append_nil]
      refine ⟨x, while_end ?_⟩
      simp only [runP, runF, runI, sSeq, sSet, sRet, sRetF, sRetN, sIf, sAsg, sPar, sPar3, sExpr, sNil, sNever, sPub, sOwn, sApp, sPut, dBin, dVar, dC, dTst, dNot, dAnd, dOr, vAnd, vOr, vNot, dIf, dTup, dLst, aNil, aCons, dCall, dCallU, dCallK, dCallI, dIsi, dOwnIx, gNm, gTp, gsNil, gsCons, iR1, iEn, iLst, dListZip, dRep, ownL, ownD, putL, putD, pubS, bd_ok', v_add, v_sub, v_lt, v_le, v_gt, v_ge, v_is0, v_is1, v_eqI, v_neI, v_isII, v_isBI, List.map_cons, List.map_nil, List.cons_append, List.nil_append, List.append_nil, List.length_cons, List.length_nil, List.replicate, List.getElem?_cons_zero, List.getElem?_cons_succ, List.set_cons_zero, List.set_cons_succ, if_true, if_false, Nat.reduceAdd, Nat.reduceSub, Nat.reduceEqDiff, Bool.false_eq_true, Bool.not_true, Bool.not_false, decide_true, decide_false, and_self]
      rfl
    · cases k with
      | zero => exact absurd (by simpa using h) z
      | succ k =>
        have q : n / r < r ^ k := by
          rw [Nat.div_lt_iff_lt_mul (by omega)]
          rw [Nat.pow_succ] at h
          exact h
        obtain ⟨y, ih⟩ := digits_in_loop hr hr2 k (n / r) (acc ++ [n % r]) (.val (.int ((n : Int) % r))) q (by rw [List.length_append]; simp; omega)
        rw [List.append_assoc, List.singleton_append, ← dg_pos hr (by omega)] at ih
        have hp : divOk (r : Int) := divOk_nat (by omega) (Nat.lt_of_lt_of_le hr2 (Nat.pow_le_pow_right (by decide) (by decide)))
        have hn : (0 : Int) < n := by omega
        have hz : (iN acc).length < sizeLine := by
          rw [List.length_map, List.length_map]
          exact szl (by omega)
        have e1 : iN acc ++ [.int ((n : Int) % r)] = iN (acc ++ [n % r]) := by
          simp
        have e2 : ((n : Int) / r) = ((n / r : Nat) : Int) := rfl
        refine ⟨y, while_go ?_ ?_ ih⟩
        · simp only [runP, runF, runI, sSeq, sSet, sRet, sRetF, sRetN, sIf, sAsg, sPar, sPar3, sExpr, sNil, sNever, sPub, sOwn, sApp, sPut, dBin, dVar, dC, dTst, dNot, dAnd, dOr, vAnd, vOr, vNot, dIf, dTup, dLst, aNil, aCons, dCall, dCallU, dCallK, dCallI, dIsi, dOwnIx, gNm, gTp, gsNil, gsCons, iR1, iEn, iLst, dListZip, dRep, ownL, ownD, putL, putD, pubS, bd_ok', v_add, v_sub, v_lt, v_le, v_gt, v_ge, v_is0, v_is1, v_eqI, v_neI, v_isII, v_isBI, List.map_cons, List.map_nil, List.cons_append, List.nil_append, List.append_nil, List.length_cons, List.length_nil, List.replicate, List.getElem?_cons_zero, List.getElem?_cons_succ, List.set_cons_zero, List.set_cons_succ, if_true, if_false, Nat.reduceAdd, Nat.reduceSub, Nat.reduceEqDiff, Bool.false_eq_true, Bool.not_true, Bool.not_false, decide_true, decide_false, and_self, hn]
        · simp only [runP, runF, runI, sSeq, sSet, sRet, sRetF, sRetN, sIf, sAsg, sPar, sPar3, sExpr, sNil, sNever, sPub, sOwn, sApp, sPut, dBin, dVar, dC, dTst, dNot, dAnd, dOr, vAnd, vOr, vNot, dIf, dTup, dLst, aNil, aCons, dCall, dCallU, dCallK, dCallI, dIsi, dOwnIx, gNm, gTp, gsNil, gsCons, iR1, iEn, iLst, dListZip, dRep, ownL, ownD, putL, putD, pubS, bd_ok', v_add, v_sub, v_lt, v_le, v_gt, v_ge, v_is0, v_is1, v_eqI, v_neI, v_isII, v_isBI, List.map_cons, List.map_nil, List.cons_append, List.nil_append, List.append_nil, List.length_cons, List.length_nil, List.replicate, List.getElem?_cons_zero, List.getElem?_cons_succ, List.set_cons_zero, List.set_cons_succ, if_true, if_false, Nat.reduceAdd, Nat.reduceSub, Nat.reduceEqDiff, Bool.false_eq_true, Bool.not_true, Bool.not_false, decide_true, decide_false, and_self, divmodN, hp, hz, e1, e2]
theorem e_digits_in {r : Nat} (hr : 2 ≤ r) (hr2 : r < 2 ^ 20) (n : Nat) (h : n < r ^ 300) : f_digits_in [.int n, .int r] = ok (.lst (iN (dg r n).reverse)) := by
  obtain ⟨y, e⟩ := digits_in_loop hr hr2 300 n [] .un h (by simp)
  have e : _ = ok (Out.nx [Sl.val (D.int 0), Sl.val (D.int r), Sl.own (D.lst (iN (dg r n))), y]) := e
  simp only [iN, iD, List.map_nil] at e
  have h0 : 0 ≤ sizeLine := Nat.zero_le _
  have er : iN (dg r n).reverse = (iN (dg r n)).reverse := by simp
  rw [er]
  simp only [f_digits_in, b_digits_in, dRev, runP, runF, runI, sSeq, sSet, sRet, sRetF, sRetN, sIf, sAsg, sPar, sPar3, sExpr, sNil, sNever, sPub, sOwn, sApp, sPut, dBin, dVar, dC, dTst, dNot, dAnd, dOr, vAnd, vOr, vNot, dIf, dTup, dLst, aNil, aCons, dCall, dCallU, dCallK, dCallI, dIsi, dOwnIx, gNm, gTp, gsNil, gsCons, iR1, iEn, iLst, dListZip, dRep, ownL, ownD, putL, putD, pubS, bd_ok', v_add, v_sub, v_lt, v_le, v_gt, v_ge, v_is0, v_is1, v_eqI, v_neI, v_isII, v_isBI, List.map_cons, List.map_nil, List.cons_append, List.nil_append, List.append_nil, List.length_cons, List.length_nil, List.replicate, List.getElem?_cons_zero, List.getElem?_cons_succ, List.set_cons_zero, List.set_cons_succ, if_true, if_false, Nat.reduceAdd, Nat.reduceSub, Nat.reduceEqDiff, Bool.false_eq_true, Bool.not_true, Bool.not_false, decide_true, decide_false, and_self, h0, e]
theorem mem_iN {k : Nat} {ns : List Nat} : ((k : Int) ∈ ns.map fun (j : Nat) => (j : Int)) ↔ k ∈ ns := by
  rw [List.mem_map]
  exact ⟨fun ⟨a, h, e⟩ => by rwa [← Int.ofNat_inj.mp e], fun h => ⟨k, h, rfl⟩⟩
theorem zipD_iN : ∀ as bs : List Nat, zipD (iN as) (iN bs) = pD ((as.zip bs).map fun p => ((p.1 : Int), (p.2 : Int)))
  | [], _ => by simp [zipD]
  | _ :: _, [] => by simp [zipD]
  | a :: as, b :: bs => by
    show D.tup [.int a, .int b] :: zipD (iN as) (iN bs) = _
    rw [zipD_iN as bs]
    rfl
theorem mem_pN {a b : Nat} {ps : List (Nat × Nat)} : (((a : Int), (b : Int)) ∈ ps.map fun p => ((p.1 : Int), (p.2 : Int))) ↔ (a, b) ∈ ps := by
  rw [List.mem_map]
  constructor
  · rintro ⟨⟨c, d⟩, h, e⟩
    have e1 : (c : Int) = a := congrArg Prod.fst e
    have e2 : (d : Int) = b := congrArg Prod.snd e
    have e1 : c = a := by omega
    have e2 : d = b := by omega
    rw [← e1, ← e2]
    exact h
  · intro h
    exact ⟨(a, b), h, rfl⟩
/-! ### numbers of digits -/
def vr (r : Nat) (ds : List Nat) : Nat := ds.foldr (fun d f => f * r + d) 0
theorem nb_loop (a : Sl) (r : Nat) (hr : r < 2 ^ 20) : ∀ (ds : List Nat) (acc : Nat) (x : Sl), ∃ y, forL (gNm 3) (sSet 2 (dBin addI (dBin mulI (dVar 2) (dVar 1)) (dVar 3))) (iN ds) [a, .val (.int r), .val (.int acc), x] = ok (.nx [a, .val (.int r), .val (.int (ds.foldl (fun f d => f * r + d) acc : Nat)), y])
  | [], acc, x => ⟨x, rfl⟩
  | d :: ds, acc, x => by
    obtain ⟨y, e⟩ := nb_loop a r hr ds (acc * r + d) (.val (.int d))
    have m := fun i : Int => v_mulR (i := i) (j := (r : Int)) (by omega) (by omega)
    have ez : ((acc * r + d : Nat) : Int) = (acc : Int) * r + d := by simp
    refine ⟨y, Eq.trans (forL_cons (s1 := [a, .val (.int r), .val (.int acc), .val (.int d)]) rfl ?_) e⟩
    rw [ez]
    simp only [runP, runF, runI, sSeq, sSet, sRet, sRetF, sRetN, sIf, sAsg, sPar, sPar3, sExpr, sNil, sNever, sPub, sOwn, sApp, sPut, dBin, dVar, dC, dTst, dNot, dAnd, dOr, vAnd, vOr, vNot, dIf, dTup, dLst, aNil, aCons, dCall, dCallU, dCallK, dCallI, dIsi, dOwnIx, gNm, gTp, gsNil, gsCons, iR1, iEn, iLst, dListZip, dRep, ownL, ownD, putL, putD, pubS, bd_ok', v_add, v_sub, v_lt, v_le, v_gt, v_ge, v_is0, v_is1, v_eqI, v_neI, v_isII, v_isBI, List.map_cons, List.map_nil, List.cons_append, List.nil_append, List.append_nil, List.length_cons, List.length_nil, List.replicate, List.getElem?_cons_zero, List.getElem?_cons_succ, List.set_cons_zero, List.set_cons_succ, if_true, if_false, Nat.reduceAdd, Nat.reduceSub, Nat.reduceEqDiff, Bool.false_eq_true, Bool.not_true, Bool.not_false, decide_true, decide_false, and_self, m]
theorem e_number_of (r : Nat) (hr : r < 2 ^ 20) (ds : List Nat) : f_number_of [.lst (iN ds.reverse), .int r] = ok (.int (vr r ds)) := by
  obtain ⟨y, e⟩ := nb_loop (.val (.lst (iN ds.reverse))) r hr ds.reverse 0 .un
  rw [List.foldl_reverse] at e
  have e : forL _ _ _ [.val (.lst (iN ds.reverse)), .val (.int r), .val (.int 0), .un] = ok (.nx [.val (.lst (iN ds.reverse)), .val (.int r), .val (.int (vr r ds)), y]) := e
  simp only [f_number_of, b_number_of, sFor, runP, runF, runI, sSeq, sSet, sRet, sRetF, sRetN, sIf, sAsg, sPar, sPar3, sExpr, sNil, sNever, sPub, sOwn, sApp, sPut, dBin, dVar, dC, dTst, dNot, dAnd, dOr, vAnd, vOr, vNot, dIf, dTup, dLst, aNil, aCons, dCall, dCallU, dCallK, dCallI, dIsi, dOwnIx, gNm, gTp, gsNil, gsCons, iR1, iEn, iLst, dListZip, dRep, ownL, ownD, putL, putD, pubS, bd_ok', v_add, v_sub, v_lt, v_le, v_gt, v_ge, v_is0, v_is1, v_eqI, v_neI, v_isII, v_isBI, List.map_cons, List.map_nil, List.cons_append, List.nil_append, List.append_nil, List.length_cons, List.length_nil, List.replicate, List.getElem?_cons_zero, List.getElem?_cons_succ, List.set_cons_zero, List.set_cons_succ, if_true, if_false, Nat.reduceAdd, Nat.reduceSub, Nat.reduceEqDiff, Bool.false_eq_true, Bool.not_true, Bool.not_false, decide_true, decide_false, and_self, e]
def Bm (n : Nat) : Nat := if h : n = 0 then 0 else 3 * Bm (n / 2) + n % 2
termination_by n
decreasing_by omega
theorem Bm_zero : Bm 0 = 0 := by
  rw [Bm, dif_pos rfl]
theorem Bm_rec (n : Nat) : Bm n = 3 * Bm (n / 2) + n % 2 := by
  by_cases z : n = 0
  · subst z
    rw [Bm_zero]
  · rw [Bm, dif_neg z]
theorem vr_dg (n : Nat) : vr 3 (dg 2 n) = Bm n := by
  induction n using Nat.strongRecOn with | _ n ih =>
    by_cases z : n = 0
    · subst z
      rw [dg_zero, Bm_zero]
      rfl
    · rw [dg_pos (by decide) (by omega), Bm_rec]
      show vr 3 (dg 2 (n / 2)) * 3 + n % 2 = _
      rw [ih (n / 2) (by omega)]
      omega
theorem e_member_at (n : Nat) (h : n < 2 ^ 300) : f_member_at [.int n] = ok (.int (Bm n)) := by
  have e1 : f_digits_in [.int n, .int 2] = _ := e_digits_in (r := 2) (by decide) (by decide) n h
  have e2 : f_number_of [.lst (iN (dg 2 n).reverse), .int 3] = _ := e_number_of 3 (by decide) (dg 2 n)
  rw [vr_dg] at e2
  simp only [f_member_at, b_member_at, runP, runF, runI, sSeq, sSet, sRet, sRetF, sRetN, sIf, sAsg, sPar, sPar3, sExpr, sNil, sNever, sPub, sOwn, sApp, sPut, dBin, dVar, dC, dTst, dNot, dAnd, dOr, vAnd, vOr, vNot, dIf, dTup, dLst, aNil, aCons, dCall, dCallU, dCallK, dCallI, dIsi, dOwnIx, gNm, gTp, gsNil, gsCons, iR1, iEn, iLst, dListZip, dRep, ownL, ownD, putL, putD, pubS, bd_ok', v_add, v_sub, v_lt, v_le, v_gt, v_ge, v_is0, v_is1, v_eqI, v_neI, v_isII, v_isBI, List.map_cons, List.map_nil, List.cons_append, List.nil_append, List.append_nil, List.length_cons, List.length_nil, List.replicate, List.getElem?_cons_zero, List.getElem?_cons_succ, List.set_cons_zero, List.set_cons_succ, if_true, if_false, Nat.reduceAdd, Nat.reduceSub, Nat.reduceEqDiff, Bool.false_eq_true, Bool.not_true, Bool.not_false, decide_true, decide_false, and_self, e1, e2]
theorem e_member (n : Nat) (h : n < 2 ^ 300) : f_base_member [.int n] = ok (.int (Bm n)) := by
  have e1 := e_check n (by omega)
  have e2 := e_member_at n h
  simp only [f_base_member, b_base_member, runP, runF, runI, sSeq, sSet, sRet, sRetF, sRetN, sIf, sAsg, sPar, sPar3, sExpr, sNil, sNever, sPub, sOwn, sApp, sPut, dBin, dVar, dC, dTst, dNot, dAnd, dOr, vAnd, vOr, vNot, dIf, dTup, dLst, aNil, aCons, dCall, dCallU, dCallK, dCallI, dIsi, dOwnIx, gNm, gTp, gsNil, gsCons, iR1, iEn, iLst, dListZip, dRep, ownL, ownD, putL, putD, pubS, bd_ok', v_add, v_sub, v_lt, v_le, v_gt, v_ge, v_is0, v_is1, v_eqI, v_neI, v_isII, v_isBI, List.map_cons, List.map_nil, List.cons_append, List.nil_append, List.append_nil, List.length_cons, List.length_nil, List.replicate, List.getElem?_cons_zero, List.getElem?_cons_succ, List.set_cons_zero, List.set_cons_succ, if_true, if_false, Nat.reduceAdd, Nat.reduceSub, Nat.reduceEqDiff, Bool.false_eq_true, Bool.not_true, Bool.not_false, decide_true, decide_false, and_self, e1, e2]
theorem e_is_int1 (i : Int) (h : 1 ≤ i) : f_is_integer [.int i, .int 1, .non] = ok (.bl true) := by
  simp only [f_is_integer, b_is_integer, runP, runF, runI, sSeq, sSet, sRet, sRetF, sRetN, sIf, sAsg, sPar, sPar3, sExpr, sNil, sNever, sPub, sOwn, sApp, sPut, dBin, dVar, dC, dTst, dNot, dAnd, dOr, vAnd, vOr, vNot, dIf, dTup, dLst, aNil, aCons, dCall, dCallU, dCallK, dCallI, dIsi, dOwnIx, gNm, gTp, gsNil, gsCons, iR1, iEn, iLst, dListZip, dRep, ownL, ownD, putL, putD, pubS, bd_ok', v_add, v_sub, v_lt, v_le, v_gt, v_ge, v_is0, v_is1, v_eqI, v_neI, v_isII, v_isBI, List.map_cons, List.map_nil, List.cons_append, List.nil_append, List.append_nil, List.length_cons, List.length_nil, List.replicate, List.getElem?_cons_zero, List.getElem?_cons_succ, List.set_cons_zero, List.set_cons_succ, if_true, if_false, Nat.reduceAdd, Nat.reduceSub, Nat.reduceEqDiff, Bool.false_eq_true, Bool.not_true, Bool.not_false, decide_true, decide_false, and_self, h]
theorem e_check1 (i : Int) (h : 1 ≤ i) : f_check_number [.int i, .int 1, .non] = ok .non := by
  simp only [f_check_number, b_check_number, runP, runF, runI, sSeq, sSet, sRet, sRetF, sRetN, sIf, sAsg, sPar, sPar3, sExpr, sNil, sNever, sPub, sOwn, sApp, sPut, dBin, dVar, dC, dTst, dNot, dAnd, dOr, vAnd, vOr, vNot, dIf, dTup, dLst, aNil, aCons, dCall, dCallU, dCallK, dCallI, dIsi, dOwnIx, gNm, gTp, gsNil, gsCons, iR1, iEn, iLst, dListZip, dRep, ownL, ownD, putL, putD, pubS, bd_ok', v_add, v_sub, v_lt, v_le, v_gt, v_ge, v_is0, v_is1, v_eqI, v_neI, v_isII, v_isBI, List.map_cons, List.map_nil, List.cons_append, List.nil_append, List.append_nil, List.length_cons, List.length_nil, List.replicate, List.getElem?_cons_zero, List.getElem?_cons_succ, List.set_cons_zero, List.set_cons_succ, if_true, if_false, Nat.reduceAdd, Nat.reduceSub, Nat.reduceEqDiff, Bool.false_eq_true, Bool.not_true, Bool.not_false, decide_true, decide_false, and_self, e_is_int1 i h]
/-! ### gaps -/
def v2 (n : Nat) : Nat := if h : n = 0 ∨ n % 2 = 1 then 0 else v2 (n / 2) + 1
termination_by n
decreasing_by omega
theorem v2_odd {n : Nat} (h : n % 2 = 1) : v2 n = 0 := by
  rw [v2, dif_pos (.inr h)]
theorem v2_even {n : Nat} (h0 : n ≠ 0) (h : n % 2 = 0) : v2 n = v2 (n / 2) + 1 := by
  rw [v2, dif_neg (by omega)]
def due (n : Nat) : Nat := (3 ^ v2 n + 1) / 2
theorem odd3 : ∀ k : Nat, 3 ^ k % 2 = 1
  | 0 => rfl
  | k + 1 => by
    have := odd3 k
    rw [Nat.pow_succ]
    omega
theorem Bm_gap (n : Nat) (h : 0 < n) : Bm n = Bm (n - 1) + due n := by
  induction n using Nat.strongRecOn with | _ n ih =>
    rcases Nat.mod_two_eq_zero_or_one n with c | c
    · have i2 := ih (n / 2) (by omega) (by omega)
      unfold due at i2 ⊢
      rw [v2_even (by omega) c, Nat.pow_succ]
      have o := odd3 (v2 (n / 2))
      rw [Bm_rec n, Bm_rec (n - 1)]
      have e1 : (n - 1) / 2 = n / 2 - 1 := by omega
      rw [e1]
      omega
    · unfold due
      rw [v2_odd c, Bm_rec n, Bm_rec (n - 1)]
      have e1 : (n - 1) / 2 = n / 2 := by omega
      rw [e1]
      omega
theorem dv2 : divOk 2 := dvSmall (n := 2) (by decide) (by decide)
theorem gap_loop (n : Nat) : 0 < n → ∀ f : Nat, ∃ y, sWhile (dTst (dBin eqD (dBin modI (dVar 0) (dC (.int 2))) (dC (.int 0)))) (sPar 0 1 (aCons (dBin divI (dVar 0) (dC (.int 2))) (aCons (dBin mulI (dVar 1) (dC (.int 3))) aNil))) [.val (.int n), .val (.int f)] = ok (.nx [y, .val (.int (f * 3 ^ v2 n : Nat))]) := by
  induction n using Nat.strongRecOn with | _ n ih =>
    intro hn f
    have p2 : (0 : Int) < 2 := by decide
    have e1 : (n : Int) % 2 = ((n % 2 : Nat) : Int) := rfl
    have e2 : (n : Int) / 2 = ((n / 2 : Nat) : Int) := rfl
    have m3 := fun i : Int => v_mulR (i := i) (show -(2 ^ 64) < (3 : Int) by decide) (show (3 : Int) < 2 ^ 64 by decide)
    rcases Nat.mod_two_eq_zero_or_one n with c | c
    · obtain ⟨y, e⟩ := ih (n / 2) (by omega) (by omega) (f * 3)
      have ez : ((f * 3 : Nat) : Int) = (f : Int) * 3 := by omega
      have z : ((n % 2 : Nat) : Int) = 0 := by omega
      refine ⟨y, while_go (s2 := [.val (.int (n / 2 : Nat)), .val (.int (f * 3 : Nat))]) ?_ ?_ (e.trans ?_)⟩
      · simp only [runP, runF, runI, sSeq, sSet, sRet, sRetF, sRetN, sIf, sAsg, sPar, sPar3, sExpr, sNil, sNever, sPub, sOwn, sApp, sPut, dBin, dVar, dC, dTst, dNot, dAnd, dOr, vAnd, vOr, vNot, dIf, dTup, dLst, aNil, aCons, dCall, dCallU, dCallK, dCallI, dIsi, dOwnIx, gNm, gTp, gsNil, gsCons, iR1, iEn, iLst, dListZip, dRep, ownL, ownD, putL, putD, pubS, bd_ok', v_add, v_sub, v_lt, v_le, v_gt, v_ge, v_is0, v_is1, v_eqI, v_neI, v_isII, v_isBI, List.map_cons, List.map_nil, List.cons_append, List.nil_append, List.append_nil, List.length_cons, List.length_nil, List.replicate, List.getElem?_cons_zero, List.getElem?_cons_succ, List.set_cons_zero, List.set_cons_succ, if_true, if_false, Nat.reduceAdd, Nat.reduceSub, Nat.reduceEqDiff, Bool.false_eq_true, Bool.not_true, Bool.not_false, decide_true, decide_false, and_self, v_mod p2, e1, z]
      · rw [ez]
        simp only [runP, runF, runI, sSeq, sSet, sRet, sRetF, sRetN, sIf, sAsg, sPar, sPar3, sExpr, sNil, sNever, sPub, sOwn, sApp, sPut, dBin, dVar, dC, dTst, dNot, dAnd, dOr, vAnd, vOr, vNot, dIf, dTup, dLst, aNil, aCons, dCall, dCallU, dCallK, dCallI, dIsi, dOwnIx, gNm, gTp, gsNil, gsCons, iR1, iEn, iLst, dListZip, dRep, ownL, ownD, putL, putD, pubS, bd_ok', v_add, v_sub, v_lt, v_le, v_gt, v_ge, v_is0, v_is1, v_eqI, v_neI, v_isII, v_isBI, List.map_cons, List.map_nil, List.cons_append, List.nil_append, List.append_nil, List.length_cons, List.length_nil, List.replicate, List.getElem?_cons_zero, List.getElem?_cons_succ, List.set_cons_zero, List.set_cons_succ, if_true, if_false, Nat.reduceAdd, Nat.reduceSub, Nat.reduceEqDiff, Bool.false_eq_true, Bool.not_true, Bool.not_false, decide_true, decide_false, and_self, v_div dv2, e2, m3]
      · rw [v2_even (by omega) c, Nat.pow_succ, Nat.mul_assoc, Nat.mul_comm 3]
    · have z : ¬ ((n % 2 : Nat) : Int) = 0 := by omega
      rw [v2_odd c, Nat.pow_zero, Nat.mul_one]
      refine ⟨_, while_stop ?_⟩
      simp only [runP, runF, runI, sSeq, sSet, sRet, sRetF, sRetN, sIf, sAsg, sPar, sPar3, sExpr, sNil, sNever, sPub, sOwn, sApp, sPut, dBin, dVar, dC, dTst, dNot, dAnd, dOr, vAnd, vOr, vNot, dIf, dTup, dLst, aNil, aCons, dCall, dCallU, dCallK, dCallI, dIsi, dOwnIx, gNm, gTp, gsNil, gsCons, iR1, iEn, iLst, dListZip, dRep, ownL, ownD, putL, putD, pubS, bd_ok', v_add, v_sub, v_lt, v_le, v_gt, v_ge, v_is0, v_is1, v_eqI, v_neI, v_isII, v_isBI, List.map_cons, List.map_nil, List.cons_append, List.nil_append, List.append_nil, List.length_cons, List.length_nil, List.replicate, List.getElem?_cons_zero, List.getElem?_cons_succ, List.set_cons_zero, List.set_cons_succ, if_true, if_false, Nat.reduceAdd, Nat.reduceSub, Nat.reduceEqDiff, Bool.false_eq_true, Bool.not_true, Bool.not_false, decide_true, decide_false, and_self, v_mod p2, e1, z]
theorem e_gap (n : Nat) (h : 0 < n) : f_base_gap [.int n] = ok (.int (due n)) := by
  obtain ⟨y, e⟩ := gap_loop n h 1
  rw [Nat.one_mul] at e
  have e : sWhile _ _ [.val (.int n), .val (.int 1)] = _ := e
  have e1 := e_check1 n (by omega)
  have e2 : (((3 ^ v2 n : Nat) : Int) + 1) / 2 = (due n : Int) := rfl
  simp only [f_base_gap, b_base_gap, runP, runF, runI, sSeq, sSet, sRet, sRetF, sRetN, sIf, sAsg, sPar, sPar3, sExpr, sNil, sNever, sPub, sOwn, sApp, sPut, dBin, dVar, dC, dTst, dNot, dAnd, dOr, vAnd, vOr, vNot, dIf, dTup, dLst, aNil, aCons, dCall, dCallU, dCallK, dCallI, dIsi, dOwnIx, gNm, gTp, gsNil, gsCons, iR1, iEn, iLst, dListZip, dRep, ownL, ownD, putL, putD, pubS, bd_ok', v_add, v_sub, v_lt, v_le, v_gt, v_ge, v_is0, v_is1, v_eqI, v_neI, v_isII, v_isBI, List.map_cons, List.map_nil, List.cons_append, List.nil_append, List.append_nil, List.length_cons, List.length_nil, List.replicate, List.getElem?_cons_zero, List.getElem?_cons_succ, List.set_cons_zero, List.set_cons_succ, if_true, if_false, Nat.reduceAdd, Nat.reduceSub, Nat.reduceEqDiff, Bool.false_eq_true, Bool.not_true, Bool.not_false, decide_true, decide_false, and_self, e1, e, v_div dv2, e2]
theorem gap2_loop (a b : Sl) (n : Nat) : 0 < n → ∀ f : Nat, ∃ y, sWhile (dTst (dBin eqD (dBin modI (dVar 2) (dC (.int 2))) (dC (.int 0)))) (sPar 1 2 (aCons (dBin mulI (dC (.int 3)) (dVar 1)) (aCons (dBin divI (dVar 2) (dC (.int 2))) aNil))) [a, .val (.int f), .val (.int n), b] = ok (.nx [a, .val (.int (f * 3 ^ v2 n : Nat)), y, b]) := by
  induction n using Nat.strongRecOn with | _ n ih =>
    intro hn f
    have p2 : (0 : Int) < 2 := by decide
    have e1 : (n : Int) % 2 = ((n % 2 : Nat) : Int) := rfl
    have e2 : (n : Int) / 2 = ((n / 2 : Nat) : Int) := rfl
    have m3 := fun i : Int => v_mulL (j := i) (show -(2 ^ 64) < (3 : Int) by decide) (show (3 : Int) < 2 ^ 64 by decide)
    rcases Nat.mod_two_eq_zero_or_one n with c | c
    · obtain ⟨y, e⟩ := ih (n / 2) (by omega) (by omega) (f * 3)
      have ez : ((f * 3 : Nat) : Int) = 3 * (f : Int) := by omega
      have z : ((n % 2 : Nat) : Int) = 0 := by omega
      refine ⟨y, while_go (s2 := [a, .val (.int (f * 3 : Nat)), .val (.int (n / 2 : Nat)), b]) ?_ ?_ (e.trans ?_)⟩
      · simp only [runP, runF, runI, sSeq, sSet, sRet, sRetF, sRetN, sIf, sAsg, sPar, sPar3, sExpr, sNil, sNever, sPub, sOwn, sApp, sPut, dBin, dVar, dC, dTst, dNot, dAnd, dOr, vAnd, vOr, vNot, dIf, dTup, dLst, aNil, aCons, dCall, dCallU, dCallK, dCallI, dIsi, dOwnIx, gNm, gTp, gsNil, gsCons, iR1, iEn, iLst, dListZip, dRep, ownL, ownD, putL, putD, pubS, bd_ok', v_add, v_sub, v_lt, v_le, v_gt, v_ge, v_is0, v_is1, v_eqI, v_neI, v_isII, v_isBI, List.map_cons, List.map_nil, List.cons_append, List.nil_append, List.append_nil, List.length_cons, List.length_nil, List.replicate, List.getElem?_cons_zero, List.getElem?_cons_succ, List.set_cons_zero, List.set_cons_succ, if_true, if_false, Nat.reduceAdd, Nat.reduceSub, Nat.reduceEqDiff, Bool.false_eq_true, Bool.not_true, Bool.not_false, decide_true, decide_false, and_self, v_mod p2, e1, z]
      · rw [ez]
        simp only [runP, runF, runI, sSeq, sSet, sRet, sRetF, sRetN, sIf, sAsg, sPar, sPar3, sExpr, sNil, sNever, sPub, sOwn, sApp, sPut, dBin, dVar, dC, dTst, dNot, dAnd, dOr, vAnd, vOr, vNot, dIf, dTup, dLst, aNil, aCons, dCall, dCallU, dCallK, dCallI, dIsi, dOwnIx, gNm, gTp, gsNil, gsCons, iR1, iEn, iLst, dListZip, dRep, ownL, ownD, putL, putD, pubS, bd_ok', v_add, v_sub, v_lt, v_le, v_gt, v_ge, v_is0, v_is1, v_eqI, v_neI, v_isII, v_isBI, List.map_cons, List.map_nil, List.cons_append, List.nil_append, List.append_nil, List.length_cons, List.length_nil, List.replicate, List.getElem?_cons_zero, List.getElem?_cons_succ, List.set_cons_zero, List.set_cons_succ, if_true, if_false, Nat.reduceAdd, Nat.reduceSub, Nat.reduceEqDiff, Bool.false_eq_true, Bool.not_true, Bool.not_false, decide_true, decide_false, and_self, v_div dv2, e2, m3]
      · rw [v2_even (by omega) c, Nat.pow_succ, Nat.mul_assoc, Nat.mul_comm 3]
    · have z : ¬ ((n % 2 : Nat) : Int) = 0 := by omega
      rw [v2_odd c, Nat.pow_zero, Nat.mul_one]
      refine ⟨_, while_stop ?_⟩
      simp only [runP, runF, runI, sSeq, sSet, sRet, sRetF, sRetN, sIf, sAsg, sPar, sPar3, sExpr, sNil, sNever, sPub, sOwn, sApp, sPut, dBin, dVar, dC, dTst, dNot, dAnd, dOr, vAnd, vOr, vNot, dIf, dTup, dLst, aNil, aCons, dCall, dCallU, dCallK, dCallI, dIsi, dOwnIx, gNm, gTp, gsNil, gsCons, iR1, iEn, iLst, dListZip, dRep, ownL, ownD, putL, putD, pubS, bd_ok', v_add, v_sub, v_lt, v_le, v_gt, v_ge, v_is0, v_is1, v_eqI, v_neI, v_isII, v_isBI, List.map_cons, List.map_nil, List.cons_append, List.nil_append, List.append_nil, List.length_cons, List.length_nil, List.replicate, List.getElem?_cons_zero, List.getElem?_cons_succ, List.set_cons_zero, List.set_cons_succ, if_true, if_false, Nat.reduceAdd, Nat.reduceSub, Nat.reduceEqDiff, Bool.false_eq_true, Bool.not_true, Bool.not_false, decide_true, decide_false, and_self, v_mod p2, e1, z]
/-! ### sums of two -/
theorem Bm_lt (n : Nat) : Bm n < Bm (n + 1) := by
  have h := Bm_gap (n + 1) (by omega)
  rw [Nat.add_sub_cancel] at h
  have o := odd3 (v2 (n + 1))
  unfold due at h
  generalize 3 ^ v2 (n + 1) = t at *
  omega
theorem Bm_add (n : Nat) : ∀ m, Bm m + Bm n ≤ Bm (m + n) ∧ ((1, 1) ∉ (dg 2 m).zip (dg 2 n) → Bm m + Bm n = Bm (m + n)) ∧ ((1, 1) ∈ (dg 2 m).zip (dg 2 n) → Bm m + Bm n < Bm (m + n)) := by
  induction n using Nat.strongRecOn with | _ n ih =>
    intro m
    by_cases z : n = 0
    · subst z
      rw [Bm_zero, dg_zero, List.zip_nil_right]
      exact ⟨Nat.le_refl _, fun _ => rfl, fun h => by simp at h⟩
    by_cases y : m = 0
    · subst y
      rw [Bm_zero, dg_zero, List.zip_nil_left, Nat.zero_add, Nat.zero_add]
      exact ⟨Nat.le_refl _, fun _ => rfl, fun h => by simp at h⟩
    obtain ⟨i1, i2, i3⟩ := ih (n / 2) (by omega) (m / 2)
    rw [dg_pos (n := m) (by decide) (by omega), dg_pos (n := n) (by decide) (by omega), List.zip_cons_cons, List.mem_cons]
    rw [Bm_rec m, Bm_rec n, Bm_rec (m + n)]
    by_cases c : m % 2 = 1 ∧ n % 2 = 1
    · have e : (m + n) / 2 = m / 2 + n / 2 + 1 := by omega
      have lt := Bm_lt (m / 2 + n / 2)
      rw [e]
      refine ⟨by omega, fun h => absurd (.inl (by rw [c.1, c.2])) h, fun _ => by omega⟩
    · have e : (m + n) / 2 = m / 2 + n / 2 := by omega
      rw [e]
      have ne : ¬ ((1, 1) : Nat × Nat) = (m % 2, n % 2) := fun q => c ⟨(congrArg Prod.fst q).symm, (congrArg Prod.snd q).symm⟩
      refine ⟨by omega, fun h => ?_, fun h => ?_⟩
      · have := i2 fun q => h (.inr q)
        omega
      · rcases h with h | h
        · exact absurd h ne
        · have := i3 h
          omega
/-! ### sums of all below -/
def cntP (P n : Nat) : Nat := n / (2 * P) * P + (n % (2 * P) - P)
theorem cntP_succ (P n : Nat) (h : 0 < P) : cntP P (n + 1) = cntP P n + n / P % 2 := by
  unfold cntP
  obtain ⟨q, r, e, hr⟩ : ∃ q r, n = 2 * P * q + r ∧ r < 2 * P := ⟨n / (2 * P), n % (2 * P), (Nat.div_add_mod n (2 * P)).symm, Nat.mod_lt _ (by omega)⟩
  have d1 : n / (2 * P) = q := by
    rw [e, Nat.mul_add_div (by omega), Nat.div_eq_of_lt hr, Nat.add_zero]
  have m1 : n % (2 * P) = r := by
    rw [e, Nat.mul_add_mod, Nat.mod_eq_of_lt hr]
  have b1 : n / P % 2 = if r < P then 0 else 1 := by
    rw [e, show 2 * P * q + r = P * (2 * q) + r by rw [Nat.mul_comm 2 P, Nat.mul_assoc], Nat.mul_add_div h]
    split
    · next c => rw [Nat.div_eq_of_lt c]; omega
    · next c =>
      have : r / P = 1 := by
        rw [Nat.div_eq_iff h]
        omega
      rw [this]
      omega
  rw [d1, m1, b1]
  by_cases c : r + 1 < 2 * P
  · have d2 : (n + 1) / (2 * P) = q := by
      rw [e, Nat.add_assoc, Nat.mul_add_div (by omega), Nat.div_eq_of_lt c, Nat.add_zero]
    have m2 : (n + 1) % (2 * P) = r + 1 := by
      rw [e, Nat.add_assoc, Nat.mul_add_mod, Nat.mod_eq_of_lt c]
    rw [d2, m2]
    split <;> omega
  · have e2 : n + 1 = 2 * P * (q + 1) := by
      rw [e, Nat.mul_add]
      omega
    have d2 : (n + 1) / (2 * P) = q + 1 := by
      rw [e2, Nat.mul_div_cancel_left _ (by omega)]
    have m2 : (n + 1) % (2 * P) = 0 := by
      rw [e2, Nat.mul_mod_right]
    rw [d2, m2, Nat.add_mul]
    split <;> omega
def Ts : Nat → Nat → Nat
  | 0, _ => 0
  | k + 1, n => Ts k n + cntP (2 ^ k) n * 3 ^ k
def Bk : Nat → Nat → Nat
  | 0, _ => 0
  | k + 1, n => Bk k n + n / 2 ^ k % 2 * 3 ^ k
theorem Ts_succ : ∀ k n : Nat, Ts k (n + 1) = Ts k n + Bk k n
  | 0, _ => rfl
  | k + 1, n => by
    rw [Ts, Ts, Bk, Ts_succ k n, cntP_succ _ _ (Nat.pow_pos (by decide)), Nat.add_mul]
    omega
theorem Bk_low : ∀ k n : Nat, Bk (k + 1) n = n % 2 + 3 * Bk k (n / 2)
  | 0, n => by
    show 0 + n / 1 % 2 * 1 = n % 2 + 3 * 0
    rw [Nat.div_one]
    omega
  | k + 1, n => by
    rw [Bk, Bk_low k n, Bk]
    have e : n / 2 ^ (k + 1) = n / 2 / 2 ^ k := by
      rw [Nat.div_div_eq_div_mul, Nat.pow_succ, Nat.mul_comm 2]
    rw [e, Nat.mul_add, Nat.pow_succ, ← Nat.mul_assoc, Nat.mul_comm _ 3]
    omega
theorem Bk_eq : ∀ k n : Nat, n < 2 ^ k → Bk k n = Bm n
  | 0, n, h => by
    have : n = 0 := by omega
    subst this
    rw [Bm_zero]
    rfl
  | k + 1, n, h => by
    rw [Bk_low, Bk_eq k (n / 2) (by rw [Nat.pow_succ] at h; omega), Bm_rec n]
    omega
def SB : Nat → Nat
  | 0 => 0
  | n + 1 => SB n + Bm n
theorem Ts_zero : ∀ k : Nat, Ts k 0 = 0
  | 0 => rfl
  | k + 1 => by
    rw [Ts, Ts_zero k]
    unfold cntP
    simp
theorem Ts_eq (k : Nat) : ∀ n : Nat, n ≤ 2 ^ k → Ts k n = SB n
  | 0, _ => Ts_zero k
  | n + 1, h => by
    rw [Ts_succ, Ts_eq k n (by omega), Bk_eq k n (by omega)]
    rfl
theorem log_lt {n k : Nat} (hk : 0 < k) (h : n < 2 ^ k) : (n : Int).natAbs.log2 < k := by
  show n.log2 < k
  by_cases z : n = 0
  · rw [z]
    exact hk
  · exact (Nat.log2_lt z).mpr h
theorem mulN {a b : Nat} (ha : a < 2 ^ 4000) (hb : b < 2 ^ 4000) : mulI (.int a) (.int b) = ok (.int (a * b : Nat)) := by
  have l : ∀ {n : Nat}, n < 2 ^ 4000 → (n : Int).natAbs.log2 < 4000 := fun {n} h => log_lt (Nat.succ_pos _) h
  have h1 := l ha
  have h2 := l hb
  have h3 : (a : Int).natAbs.log2 + (b : Int).natAbs.log2 < 1000000 := Nat.lt_of_lt_of_le (Nat.add_lt_add h1 h2) (by decide)
  have e : ((a * b : Nat) : Int) = (a : Int) * b := by simp
  rw [e]
  generalize (a : Int) = x at *
  generalize (b : Int) = y at *
  exact if_pos (.inr (.inr h3))
theorem p4000 {n k : Nat} (h : n ≤ 2 ^ k) (hk : k < 4000) : n < 2 ^ 4000 := Nat.lt_of_le_of_lt h (Nat.pow_lt_pow_right (by decide) hk)
theorem pow3_le (k : Nat) : 3 ^ k ≤ 2 ^ (2 * k) := by
  rw [Nat.pow_mul]
  exact Nat.pow_le_pow_left (by decide) k
theorem cntP_le (P n : Nat) (h : 0 < P) : cntP P n ≤ n := by
  unfold cntP
  have h1 := Nat.div_add_mod n (2 * P)
  have e : 2 * P * (n / (2 * P)) = 2 * (n / (2 * P) * P) := by
    rw [Nat.mul_assoc, Nat.mul_comm P]
  rw [e] at h1
  generalize n / (2 * P) * P = t at *
  generalize n % (2 * P) = u at *
  omega
theorem Ts_stable {k n : Nat} (h : n < 2 ^ k) : ∀ j : Nat, Ts (k + j) n = Ts k n
  | 0 => rfl
  | j + 1 => by
    rw [← Nat.add_assoc, Ts, Ts_stable h j]
    have h2 : n < 2 ^ (k + j) := Nat.lt_of_lt_of_le h (Nat.pow_le_pow_right (by decide) (by omega))
    have : cntP (2 ^ (k + j)) n = 0 := by
      unfold cntP
      rw [Nat.div_eq_of_lt (by omega), Nat.mod_eq_of_lt (by omega)]
      omega
    rw [this]
    omega
abbrev sumBody : S → M Out := sSeq (sAsg (dCall divmodN (aCons (dVar 0) (aCons (dBin mulI (dC (.int 2)) (dVar 2)) aNil))) (gTp (gsCons (gNm 4) (gsCons (gNm 5) gsNil))))
    (sSeq (sSet 1 (dBin addI (dVar 1) (dBin mulI (dBin addI (dBin mulI (dVar 4) (dVar 2)) (dCall max2N (aCons (dC (.int 0)) (aCons (dBin subI (dVar 5) (dVar 2)) aNil)))) (dVar 3))))
    (sPar 2 3 (aCons (dBin mulI (dC (.int 2)) (dVar 2)) (aCons (dBin mulI (dC (.int 3)) (dVar 3)) aNil))))
theorem sum_go (n f k : Nat) (hn : n < 2 ^ 300) (hk : k < 300) (x y : Sl) : ∃ x' y', sumBody [.val (.int n), .val (.int f), .val (.int (2 ^ k : Nat)), .val (.int (3 ^ k : Nat)), x, y] =
    ok (.nx [.val (.int n), .val (.int (f + cntP (2 ^ k) n * 3 ^ k : Nat)), .val (.int (2 ^ (k + 1) : Nat)), .val (.int (3 ^ (k + 1) : Nat)), x', y']) := by
  have e2 : ((2 ^ (k + 1) : Nat) : Int) = 2 * ((2 ^ k : Nat) : Int) := by
    rw [Nat.pow_succ]
    omega
  have e3 : ((3 ^ (k + 1) : Nat) : Int) = 3 * ((3 ^ k : Nat) : Int) := by
    rw [Nat.pow_succ]
    omega
  have m2 := fun i : Int => v_mulL (j := i) (show -(2 ^ 64) < (2 : Int) by decide) (show (2 : Int) < 2 ^ 64 by decide)
  have m3 := fun i : Int => v_mulL (j := i) (show -(2 ^ 64) < (3 : Int) by decide) (show (3 : Int) < 2 ^ 64 by decide)
  have pp : 0 < 2 ^ k := Nat.pow_pos (by decide)
  have hp : 2 ^ k ≤ 2 ^ 300 := Nat.pow_le_pow_right (by decide) (by omega)
  have hd : divOk (2 * ((2 ^ k : Nat) : Int)) := by
    have := dvSmall (n := 2 * 2 ^ k) (by omega) (Nat.lt_of_le_of_lt (Nat.mul_le_mul_left 2 hp) (by decide))
    rwa [show ((2 * 2 ^ k : Nat) : Int) = 2 * ((2 ^ k : Nat) : Int) by omega] at this
  have q1 : (n : Int) / (2 * ((2 ^ k : Nat) : Int)) = ((n / (2 * 2 ^ k) : Nat) : Int) := by simp
  have q2 : (n : Int) % (2 * ((2 ^ k : Nat) : Int)) = ((n % (2 * 2 ^ k) : Nat) : Int) := by simp
  have le1 : n / (2 * 2 ^ k) ≤ n := Nat.div_le_self _ _
  have w1 := mulN (a := n / (2 * 2 ^ k)) (b := 2 ^ k) (p4000 (k := 300) (by omega) (by decide)) (p4000 (k := 300) hp (by decide))
  have mx : (if ((n % (2 * 2 ^ k) : Nat) : Int) - ((2 ^ k : Nat) : Int) > 0 then ((n % (2 * 2 ^ k) : Nat) : Int) - ((2 ^ k : Nat) : Int) else 0) = ((n % (2 * 2 ^ k) - 2 ^ k : Nat) : Int) := by
    split <;> omega
  have s1 : ((n / (2 * 2 ^ k) * 2 ^ k : Nat) : Int) + ((n % (2 * 2 ^ k) - 2 ^ k : Nat) : Int) = ((cntP (2 ^ k) n : Nat) : Int) := rfl
  have c3 := pow3_le k
  have hc := cntP_le (2 ^ k) n pp
  have w2 := mulN (a := cntP (2 ^ k) n) (b := 3 ^ k) (p4000 (k := 300) (by omega) (by decide)) (p4000 (k := 2 * k) c3 (by omega))
  have s2 : ((f + cntP (2 ^ k) n * 3 ^ k : Nat) : Int) = (f : Int) + ((cntP (2 ^ k) n * 3 ^ k : Nat) : Int) := by omega
  refine ⟨.val (.int (n / (2 * 2 ^ k) : Nat)), .val (.int (n % (2 * 2 ^ k) : Nat)), ?_⟩
  rw [e2, e3, s2]
  simp only [sumBody, runP, runF, runI, sSeq, sSet, sRet, sRetF, sRetN, sIf, sAsg, sPar, sPar3, sExpr, sNil, sNever, sPub, sOwn, sApp, sPut, dBin, dVar, dC, dTst, dNot, dAnd, dOr, vAnd, vOr, vNot, dIf, dTup, dLst, aNil, aCons, dCall, dCallU, dCallK, dCallI, dIsi, dOwnIx, gNm, gTp, gsNil, gsCons, iR1, iEn, iLst, dListZip, dRep, ownL, ownD, putL, putD, pubS, bd_ok', v_add, v_sub, v_lt, v_le, v_gt, v_ge, v_is0, v_is1, v_eqI, v_neI, v_isII, v_isBI, List.map_cons, List.map_nil, List.cons_append, List.nil_append, List.append_nil, List.length_cons, List.length_nil, List.replicate, List.getElem?_cons_zero, List.getElem?_cons_succ, List.set_cons_zero, List.set_cons_succ, if_true, if_false, Nat.reduceAdd, Nat.reduceSub, Nat.reduceEqDiff, Bool.false_eq_true, Bool.not_true, Bool.not_false, decide_true, decide_false, and_self, divmodN, max2N, hd, q1, q2, m2, m3, w1, mx, s1, w2]
theorem sum_loop (n : Nat) (hn : n < 2 ^ 300) : ∀ (m k : Nat) (x y : Sl), k + m = 300 → ∃ a b c d, sWhile (dTst (dBin leI (dVar 2) (dVar 0))) sumBody [.val (.int n), .val (.int (Ts k n)), .val (.int (2 ^ k : Nat)), .val (.int (3 ^ k : Nat)), x, y] = ok (.nx [.val (.int n), .val (.int (SB n)), a, b, c, d])
  | m, k, x, y, hk => by
    by_cases z : 2 ^ k ≤ n
    · cases m with
      | zero =>
        have : k = 300 := by omega
        subst this
        exact absurd z (by omega)
      | succ m =>
        obtain ⟨x', y', g⟩ := sum_go n (Ts k n) k hn (by omega) x y
        obtain ⟨a, b, c, d, e⟩ := sum_loop n hn m (k + 1) x' y' (by omega)
        have zi : ((2 ^ k : Nat) : Int) ≤ n := by omega
        exact ⟨a, b, c, d, while_go (by simp only [runP, runF, runI, sSeq, sSet, sRet, sRetF, sRetN, sIf, sAsg, sPar, sPar3, sExpr, sNil, sNever, sPub, sOwn, sApp, sPut, dBin, dVar, dC, dTst, dNot, dAnd, dOr, vAnd, vOr, vNot, dIf, dTup, dLst, aNil, aCons, dCall, dCallU, dCallK, dCallI, dIsi, dOwnIx, gNm, gTp, gsNil, gsCons, iR1, iEn, iLst, dListZip, dRep, ownL, ownD, putL, putD, pubS, bd_ok', v_add, v_sub, v_lt, v_le, v_gt, v_ge, v_is0, v_is1, v_eqI, v_neI, v_isII, v_isBI, List.map_cons, List.map_nil, List.cons_append, List.nil_append, List.append_nil, List.length_cons, List.length_nil, List.replicate, List.getElem?_cons_zero, List.getElem?_cons_succ, List.set_cons_zero, List.set_cons_succ, if_true, if_false, Nat.reduceAdd, Nat.reduceSub, Nat.reduceEqDiff, Bool.false_eq_true, Bool.not_true, Bool.not_false, decide_true, decide_false, and_self, zi]) g e⟩
    · have zi : ¬ ((2 ^ k : Nat) : Int) ≤ n := by omega
      have e : Ts k n = SB n := Ts_eq k n (by omega)
      rw [e]
      exact ⟨_, _, _, _, while_stop (by simp only [runP, runF, runI, sSeq, sSet, sRet, sRetF, sRetN, sIf, sAsg, sPar, sPar3, sExpr, sNil, sNever, sPub, sOwn, sApp, sPut, dBin, dVar, dC, dTst, dNot, dAnd, dOr, vAnd, vOr, vNot, dIf, dTup, dLst, aNil, aCons, dCall, dCallU, dCallK, dCallI, dIsi, dOwnIx, gNm, gTp, gsNil, gsCons, iR1, iEn, iLst, dListZip, dRep, ownL, ownD, putL, putD, pubS, bd_ok', v_add, v_sub, v_lt, v_le, v_gt, v_ge, v_is0, v_is1, v_eqI, v_neI, v_isII, v_isBI, List.map_cons, List.map_nil, List.cons_append, List.nil_append, List.append_nil, List.length_cons, List.length_nil, List.replicate, List.getElem?_cons_zero, List.getElem?_cons_succ, List.set_cons_zero, List.set_cons_succ, if_true, if_false, Nat.reduceAdd, Nat.reduceSub, Nat.reduceEqDiff, Bool.false_eq_true, Bool.not_true, Bool.not_false, decide_true, decide_false, and_self, zi])⟩
theorem e_sum (n : Nat) (hn : n < 2 ^ 300) : f_base_sum [.int n] = ok (.int (SB n)) := by
  have e1 := e_check n (by omega)
  obtain ⟨a, b, c, d, e⟩ := sum_loop n hn 300 0 .un .un (by omega)
  have e : sWhile _ _ [.val (.int n), .val (.int 0), .val (.int 1), .val (.int 1), .un, .un] = _ := e
  have h3 : 0 + 1 + 1 + 1 ≤ sizeLine := by
    show 3 ≤ 2 ^ 24
    decide
  simp only [f_base_sum, b_base_sum, runP, runF, runI, sSeq, sSet, sRet, sRetF, sRetN, sIf, sAsg, sPar, sPar3, sExpr, sNil, sNever, sPub, sOwn, sApp, sPut, dBin, dVar, dC, dTst, dNot, dAnd, dOr, vAnd, vOr, vNot, dIf, dTup, dLst, aNil, aCons, dCall, dCallU, dCallK, dCallI, dIsi, dOwnIx, gNm, gTp, gsNil, gsCons, iR1, iEn, iLst, dListZip, dRep, ownL, ownD, putL, putD, pubS, bd_ok', v_add, v_sub, v_lt, v_le, v_gt, v_ge, v_is0, v_is1, v_eqI, v_neI, v_isII, v_isBI, List.map_cons, List.map_nil, List.cons_append, List.nil_append, List.append_nil, List.length_cons, List.length_nil, List.replicate, List.getElem?_cons_zero, List.getElem?_cons_succ, List.set_cons_zero, List.set_cons_succ, if_true, if_false, Nat.reduceAdd, Nat.reduceSub, Nat.reduceEqDiff, Bool.false_eq_true, Bool.not_true, Bool.not_false, decide_true, decide_false, and_self, e1, e, h3]
theorem SB_double : ∀ m : Nat, SB (2 * m) = 6 * SB m + m
  | 0 => rfl
  | m + 1 => by
    show SB (2 * m) + Bm (2 * m) + Bm (2 * m + 1) = 6 * (SB m + Bm m) + (m + 1)
    rw [SB_double m, Bm_rec (2 * m), Bm_rec (2 * m + 1)]
    have e1 : 2 * m / 2 = m := by omega
    have e2 : (2 * m + 1) / 2 = m := by omega
    rw [e1, e2]
    omega
theorem SB_pow : ∀ j : Nat, 4 * SB (2 ^ j) + 2 ^ j = 2 ^ j * 3 ^ j
  | 0 => by
    show 4 * (0 + Bm 0) + 1 = 1 * 1
    rw [Bm_zero]
  | j + 1 => by
    have ih := SB_pow j
    have e : 2 ^ (j + 1) = 2 * 2 ^ j := by
      rw [Nat.pow_succ]
      omega
    rw [e, SB_double, Nat.pow_succ 3 j]
    have e2 : 2 * 2 ^ j * (3 ^ j * 3) = 6 * (2 ^ j * 3 ^ j) := by
      rw [Nat.mul_comm (3 ^ j) 3, Nat.mul_mul_mul_comm]
    rw [e2, ← ih]
    omega
theorem Bm_high : ∀ j i : Nat, i < 2 ^ j → Bm (2 ^ j + i) = 3 ^ j + Bm i
  | 0, i, h => by
    have : i = 0 := by omega
    subst this
    rw [Bm_zero, Bm_rec, Bm_rec]
    show 3 * (3 * Bm (1 / 2 / 2) + _) + _ = _
    rw [show 1 / 2 / 2 = 0 from rfl, Bm_zero]
  | j + 1, i, h => by
    rw [Nat.pow_succ] at h
    have ih := Bm_high j (i / 2) (by omega)
    rw [Bm_rec (2 ^ (j + 1) + i), Bm_rec i]
    have e1 : (2 ^ (j + 1) + i) / 2 = 2 ^ j + i / 2 := by
      rw [Nat.pow_succ]
      omega
    have e2 : (2 ^ (j + 1) + i) % 2 = i % 2 := by
      rw [Nat.pow_succ]
      omega
    rw [e1, e2, ih, Nat.pow_succ]
    omega
theorem SB_high (j : Nat) : ∀ r : Nat, r ≤ 2 ^ j → SB (2 ^ j + r) = SB (2 ^ j) + SB r + r * 3 ^ j
  | 0, _ => by
    show SB (2 ^ j) = SB (2 ^ j) + 0 + 0 * 3 ^ j
    omega
  | r + 1, h => by
    show SB (2 ^ j + r) + Bm (2 ^ j + r) = SB (2 ^ j) + (SB r + Bm r) + (r + 1) * 3 ^ j
    rw [SB_high j r (by omega), Bm_high j r (by omega), Nat.add_mul]
    omega
theorem Bm_lt3 : ∀ k n : Nat, n < 2 ^ k → Bm n < 3 ^ k
  | 0, n, h => by
    have : n = 0 := by omega
    subst this
    rw [Bm_zero]
    decide
  | k + 1, n, h => by
    rw [Nat.pow_succ] at h ⊢
    have := Bm_lt3 k (n / 2) (by omega)
    rw [Bm_rec]
    omega
theorem SB_lt (k : Nat) : ∀ n : Nat, n ≤ 2 ^ k → SB n ≤ n * 3 ^ k
  | 0, _ => Nat.zero_le _
  | n + 1, h => by
    have h1 := SB_lt k n (by omega)
    have h2 := Bm_lt3 k n (by omega)
    show SB n + Bm n ≤ _
    rw [Nat.add_mul]
    omega
/-- the loop that finds the power of 2 above -/
theorem half_loop (n : Nat) (x : Sl) : ∀ (m k : Nat), n < 2 ^ (k + m) → (k = 0 ∨ 2 ^ (k - 1) ≤ n) → ∃ j, (j = 0 ∨ 2 ^ (j - 1) ≤ n) ∧ n < 2 ^ j ∧ j ≤ k + m ∧ sWhile (dTst (dBin leI (dVar 1) (dVar 0))) (sPar 1 2 (aCons (dBin mulI (dC (.int 2)) (dVar 1)) (aCons (dBin mulI (dC (.int 3)) (dVar 2)) aNil))) [.val (.int n), .val (.int (2 ^ k : Nat)), .val (.int (3 ^ k : Nat)), x] =
    ok (.nx [.val (.int n), .val (.int (2 ^ j : Nat)), .val (.int (3 ^ j : Nat)), x])
  | m, k, hm, hk => by
    by_cases z : 2 ^ k ≤ n
    · cases m with
      | zero =>
        rw [Nat.add_zero] at hm
        exact absurd z (by omega)
      | succ m =>
        obtain ⟨j, j1, j2, j3, e⟩ := half_loop n x m (k + 1) (by rw [show k + 1 + m = k + (m + 1) by omega]; exact hm) (.inr (by rw [Nat.add_sub_cancel]; exact z))
        have zi : ((2 ^ k : Nat) : Int) ≤ n := by omega
        have e2 : ((2 ^ (k + 1) : Nat) : Int) = 2 * ((2 ^ k : Nat) : Int) := by
          rw [Nat.pow_succ]
          omega
        have e3 : ((3 ^ (k + 1) : Nat) : Int) = 3 * ((3 ^ k : Nat) : Int) := by
          rw [Nat.pow_succ]
          omega
        have m2 := fun i : Int => v_mulL (j := i) (show -(2 ^ 64) < (2 : Int) by decide) (show (2 : Int) < 2 ^ 64 by decide)
        have m3 := fun i : Int => v_mulL (j := i) (show -(2 ^ 64) < (3 : Int) by decide) (show (3 : Int) < 2 ^ 64 by decide)
        exact ⟨j, j1, j2, by omega, while_go (by simp only [runP, runF, runI, sSeq, sSet, sRet, sRetF, sRetN, sIf, sAsg, sPar, sPar3, sExpr, sNil, sNever, sPub, sOwn, sApp, sPut, dBin, dVar, dC, dTst, dNot, dAnd, dOr, vAnd, vOr, vNot, dIf, dTup, dLst, aNil, aCons, dCall, dCallU, dCallK, dCallI, dIsi, dOwnIx, gNm, gTp, gsNil, gsCons, iR1, iEn, iLst, dListZip, dRep, ownL, ownD, putL, putD, pubS, bd_ok', v_add, v_sub, v_lt, v_le, v_gt, v_ge, v_is0, v_is1, v_eqI, v_neI, v_isII, v_isBI, List.map_cons, List.map_nil, List.cons_append, List.nil_append, List.append_nil, List.length_cons, List.length_nil, List.replicate, List.getElem?_cons_zero, List.getElem?_cons_succ, List.set_cons_zero, List.set_cons_succ, if_true, if_false, Nat.reduceAdd, Nat.reduceSub, Nat.reduceEqDiff, Bool.false_eq_true, Bool.not_true, Bool.not_false, decide_true, decide_false, and_self, zi]) (by rw [e2, e3]; simp only [runP, runF, runI, sSeq, sSet, sRet, sRetF, sRetN, sIf, sAsg, sPar, sPar3, sExpr, sNil, sNever, sPub, sOwn, sApp, sPut, dBin, dVar, dC, dTst, dNot, dAnd, dOr, vAnd, vOr, vNot, dIf, dTup, dLst, aNil, aCons, dCall, dCallU, dCallK, dCallI, dIsi, dOwnIx, gNm, gTp, gsNil, gsCons, iR1, iEn, iLst, dListZip, dRep, ownL, ownD, putL, putD, pubS, bd_ok', v_add, v_sub, v_lt, v_le, v_gt, v_ge, v_is0, v_is1, v_eqI, v_neI, v_isII, v_isBI, List.map_cons, List.map_nil, List.cons_append, List.nil_append, List.append_nil, List.length_cons, List.length_nil, List.replicate, List.getElem?_cons_zero, List.getElem?_cons_succ, List.set_cons_zero, List.set_cons_succ, if_true, if_false, Nat.reduceAdd, Nat.reduceSub, Nat.reduceEqDiff, Bool.false_eq_true, Bool.not_true, Bool.not_false, decide_true, decide_false, and_self, m2, m3]) e⟩
    · have zi : ¬ ((2 ^ k : Nat) : Int) ≤ n := by omega
      exact ⟨k, hk, by omega, by omega, while_stop (by simp only [runP, runF, runI, sSeq, sSet, sRet, sRetF, sRetN, sIf, sAsg, sPar, sPar3, sExpr, sNil, sNever, sPub, sOwn, sApp, sPut, dBin, dVar, dC, dTst, dNot, dAnd, dOr, vAnd, vOr, vNot, dIf, dTup, dLst, aNil, aCons, dCall, dCallU, dCallK, dCallI, dIsi, dOwnIx, gNm, gTp, gsNil, gsCons, iR1, iEn, iLst, dListZip, dRep, ownL, ownD, putL, putD, pubS, bd_ok', v_add, v_sub, v_lt, v_le, v_gt, v_ge, v_is0, v_is1, v_eqI, v_neI, v_isII, v_isBI, List.map_cons, List.map_nil, List.cons_append, List.nil_append, List.append_nil, List.length_cons, List.length_nil, List.replicate, List.getElem?_cons_zero, List.getElem?_cons_succ, List.set_cons_zero, List.set_cons_succ, if_true, if_false, Nat.reduceAdd, Nat.reduceSub, Nat.reduceEqDiff, Bool.false_eq_true, Bool.not_true, Bool.not_false, decide_true, decide_false, and_self, zi])⟩
theorem e_sum_right (n : Nat) (hn : n < 2 ^ 250) : f__law_sum_right [.int n] = ok (.bl true) := by
  obtain ⟨j, j1, j2, j3, eL⟩ := half_loop n .un 250 0 (by rw [Nat.zero_add]; exact hn) (.inl rfl)
  rw [Nat.zero_add] at j3
  have eL : sWhile _ _ [.val (.int n), .val (.int 1), .val (.int 1), .un] = _ := eL
  have b3 : (2 : Nat) ^ 250 + 1 < 2 ^ 300 := by decide
  have pj : 2 ^ j ≤ 2 ^ 250 := Nat.pow_le_pow_right (by decide) j3
  have s1 : f_base_sum [.int ((n : Int) + 1)] = ok (.int (SB n + Bm n : Nat)) := by
    have := e_sum (n + 1) (by omega)
    rw [show ((n + 1 : Nat) : Int) = (n : Int) + 1 by omega] at this
    exact this
  have s2 := e_sum n (by omega)
  have s3 := e_member n (by omega)
  have s4 := e_sum (2 ^ j) (by omega)
  have d1 : ((SB n + Bm n : Nat) : Int) - (SB n : Int) = (Bm n : Int) := by omega
  have m4 := fun i : Int => v_mulL (j := i) (show -(2 ^ 64) < (4 : Int) by decide) (show (4 : Int) < 2 ^ 64 by decide)
  have p3 : 0 < 3 ^ j := Nat.pow_pos (by decide)
  have c3 := pow3_le j
  have g1 : ((3 ^ j : Nat) : Int) - 1 = ((3 ^ j - 1 : Nat) : Int) := by omega
  have g2 := mulN (a := 2 ^ j) (b := 3 ^ j - 1) (p4000 (k := 250) pj (by decide)) (p4000 (k := 2 * j) (by omega) (by omega))
  have g3 : (4 : Int) * (SB (2 ^ j) : Int) = ((2 ^ j * (3 ^ j - 1) : Nat) : Int) := by
    have := SB_pow j
    rw [Nat.mul_sub, Nat.mul_one]
    omega
  have q1 : ((2 ^ j : Nat) : Int) / 2 = ((2 ^ j / 2 : Nat) : Int) := rfl
  have q2 : ((3 ^ j : Nat) : Int) / 3 = ((3 ^ j / 3 : Nat) : Int) := rfl
  have dv3 : divOk 3 := dvSmall (n := 3) (by decide) (by decide)
  have hsz : 0 + 1 + 1 ≤ sizeLine := by
    show 2 ≤ 2 ^ 24
    decide
  by_cases z : n = 0
  · subst z
    have zp : (((0 : Nat) : Int) = 0) = True := eq_true rfl
    simp only [f__law_sum_right, b__law_sum_right, runP, runF, runI, sSeq, sSet, sRet, sRetF, sRetN, sIf, sAsg, sPar, sPar3, sExpr, sNil, sNever, sPub, sOwn, sApp, sPut, dBin, dVar, dC, dTst, dNot, dAnd, dOr, vAnd, vOr, vNot, dIf, dTup, dLst, aNil, aCons, dCall, dCallU, dCallK, dCallI, dIsi, dOwnIx, gNm, gTp, gsNil, gsCons, iR1, iEn, iLst, dListZip, dRep, ownL, ownD, putL, putD, pubS, bd_ok', v_add, v_sub, v_lt, v_le, v_gt, v_ge, v_is0, v_is1, v_eqI, v_neI, v_isII, v_isBI, List.map_cons, List.map_nil, List.cons_append, List.nil_append, List.append_nil, List.length_cons, List.length_nil, List.replicate, List.getElem?_cons_zero, List.getElem?_cons_succ, List.set_cons_zero, List.set_cons_succ, if_true, if_false, Nat.reduceAdd, Nat.reduceSub, Nat.reduceEqDiff, Bool.false_eq_true, Bool.not_true, Bool.not_false, decide_true, decide_false, and_self, s1, s2, s3, d1, eL, m4, s4, g1, g2, g3, v_div dv2, q1, zp, hsz]
  · have zi : ¬ (n : Int) = 0 := by omega
    obtain ⟨i, rfl⟩ : ∃ i, j = i + 1 := ⟨j - 1, by
      cases j with
      | zero => omega
      | succ j => omega⟩
    have h1 : 2 ^ i ≤ n := by
      rcases j1 with h | h
      · omega
      · rw [Nat.add_sub_cancel] at h
        exact h
    have h2 : 2 ^ (i + 1) / 2 = 2 ^ i := by
      rw [Nat.pow_succ]
      omega
    have h3 : 3 ^ (i + 1) / 3 = 3 ^ i := by
      rw [Nat.pow_succ]
      omega
    have h4 : n - 2 ^ i ≤ 2 ^ i := by
      rw [Nat.pow_succ] at j2
      omega
    have h5 : (n : Int) - ((2 ^ i : Nat) : Int) = ((n - 2 ^ i : Nat) : Int) := by omega
    have s5 := e_sum (2 ^ i) (by omega)
    have s6 := e_sum (n - 2 ^ i) (by omega)
    have c4 := pow3_le i
    have g4 := mulN (a := n - 2 ^ i) (b := 3 ^ i) (p4000 (k := 250) (by omega) (by decide)) (p4000 (k := 2 * i) c4 (by omega))
    have g5 : (SB n : Int) = (SB (2 ^ i) : Int) + (SB (n - 2 ^ i) : Int) + (((n - 2 ^ i) * 3 ^ i : Nat) : Int) := by
      have := SB_high i (n - 2 ^ i) h4
      rw [show 2 ^ i + (n - 2 ^ i) = n by omega] at this
      omega
    simp only [f__law_sum_right, b__law_sum_right, runP, runF, runI, sSeq, sSet, sRet, sRetF, sRetN, sIf, sAsg, sPar, sPar3, sExpr, sNil, sNever, sPub, sOwn, sApp, sPut, dBin, dVar, dC, dTst, dNot, dAnd, dOr, vAnd, vOr, vNot, dIf, dTup, dLst, aNil, aCons, dCall, dCallU, dCallK, dCallI, dIsi, dOwnIx, gNm, gTp, gsNil, gsCons, iR1, iEn, iLst, dListZip, dRep, ownL, ownD, putL, putD, pubS, bd_ok', v_add, v_sub, v_lt, v_le, v_gt, v_ge, v_is0, v_is1, v_eqI, v_neI, v_isII, v_isBI, List.map_cons, List.map_nil, List.cons_append, List.nil_append, List.append_nil, List.length_cons, List.length_nil, List.replicate, List.getElem?_cons_zero, List.getElem?_cons_succ, List.set_cons_zero, List.set_cons_succ, if_true, if_false, Nat.reduceAdd, Nat.reduceSub, Nat.reduceEqDiff, Bool.false_eq_true, Bool.not_true, Bool.not_false, decide_true, decide_false, and_self, s1, s2, s3, d1, eL, m4, s4, g1, g2, g3, v_div dv2, v_div dv3, q1, q2, zi, h2, h3, h5, s5, s6, g4, g5.symm, hsz]
/-! ### texts of ints -/
theorem show_i : ∀ ns : List Int, (∀ n ∈ ns, n.natAbs.log2 < 1920) → PyData.showableAll (ns.map PyData.int) = true ∧ PyData.leavesShortAll 1921 (ns.map PyData.int) = true ∧ PyData.weightAll (ns.map PyData.int) ≤ 2000 * ns.length
  | [], _ => ⟨rfl, rfl, Nat.le_refl _⟩
  | n :: ns, h => by
    obtain ⟨h1, h2, h5⟩ := show_i ns fun q hq => h q (List.mem_cons_of_mem _ hq)
    have h3 := h n (List.mem_cons_self ..)
    have s1 : decide ((PyData.shown (.int n)).length ≤ 1921) = true := decide_eq_true (by rw [PyData.shown]; exact PyProof.Rows.int_text_len_1921 h3)
    have w1 : PyData.weight (.int n) ≤ 1920 := by
      rw [PyData.weight]
      split <;> omega
    refine ⟨?_, ?_, ?_⟩
    · show (decide (n.natAbs.log2 < 1920) && PyData.showableAll (ns.map PyData.int)) = true
      rw [decide_eq_true h3, h1]
      rfl
    · show (decide ((PyData.shown (.int n)).length ≤ 1921) && PyData.leavesShortAll 1921 (ns.map PyData.int)) = true
      rw [s1, h2]
      rfl
    · show PyData.weight (.int n) + 1 + PyData.weightAll (ns.map PyData.int) ≤ _
      rw [List.length_cons]
      omega
theorem v_reprI (ns : List Int) (h : ∀ n ∈ ns, n.natAbs.log2 < 1920) (hl : ns.length ≤ 2) : reprN [.lst (iD ns)] = ok (.str (D.py (.lst (iD ns))).shown) := by
  obtain ⟨h1, h2, h3⟩ := show_i ns h
  have h4 := depth_i ns
  have h5 := PyData.shown_le 1921 (by decide) (.list (ns.map PyData.int)) h2
  rw [PyData.weight] at h5
  have h6 : (1921 + 2) * PyData.weightAll (ns.map PyData.int) ≤ 1923 * 4000 := Nat.mul_le_mul (by omega) (by omega)
  unfold reprN
  dsimp only
  rw [if_pos]
  rw [D.py, pys_i]
  refine ⟨plains_i ns, h1, ?_, ?_⟩
  · rw [PyData.depth, h4]
    decide
  · show _ ≤ 2 ^ 24
    omega
theorem repr2 {a : Nat} (h : a < 2 ^ 1000) : reprN [.lst [.int a, .int a]] = ok (.str (D.py (.lst (iD [(a : Int), (a : Int)]))).shown) := by
  refine v_reprI [(a : Int), (a : Int)] (fun n hn => ?_) (Nat.le_refl 2)
  have : n = (a : Int) := by simpa using hn
  rw [this]
  exact log_lt (by decide) (Nat.lt_of_lt_of_le h (Nat.pow_le_pow_right (by decide) (by decide)))
theorem v2_le : ∀ k n : Nat, 0 < n → n < 2 ^ k → v2 n < k
  | 0, n, h0, h => by omega
  | k + 1, n, h0, h => by
    rcases Nat.mod_two_eq_zero_or_one n with c | c
    · rw [v2_even (by omega) c]
      rw [Nat.pow_succ] at h
      have := v2_le k (n / 2) (by omega) (by omega)
      omega
    · rw [v2_odd c]
      omega
theorem due_lt {n : Nat} (h0 : 0 < n) (h : n < 2 ^ 300) : due n < 2 ^ 1000 := by
  have h1 := v2_le 300 n h0 h
  have h2 := pow3_le (v2 n)
  have h3 : 2 ^ (2 * v2 n) ≤ 2 ^ 600 := Nat.pow_le_pow_right (by decide) (by omega)
  have h4 : (2 : Nat) ^ 600 < 2 ^ 1000 := Nat.pow_lt_pow_right (by decide) (by decide)
  unfold due
  omega
theorem e_gap_right (n : Nat) (h0 : 0 < n) (h : n < 2 ^ 300) : f__law_gap_right [.int n] = ok (.bl true) := by
  obtain ⟨y, eL⟩ := gap2_loop (.val (.int n)) .un n h0 1
  rw [Nat.one_mul] at eL
  have eL : sWhile _ _ [.val (.int n), .val (.int 1), .val (.int n), .un] = _ := eL
  have e1 := e_gap n h0
  have e2 : (((3 ^ v2 n : Nat) : Int) + 1) / 2 = (due n : Int) := rfl
  have r1 := repr2 (due_lt h0 h)
  have m1 := e_member n h
  have m2 := e_member (n - 1) (by omega)
  have c1 : (n : Int) - 1 = ((n - 1 : Nat) : Int) := by omega
  have c2 : (Bm n : Int) - (Bm (n - 1) : Int) = (due n : Int) := by
    have := Bm_gap n h0
    omega
  have hsz : 0 + 1 + 1 ≤ sizeLine := by
    show 2 ≤ 2 ^ 24
    decide
  simp only [f__law_gap_right, b__law_gap_right, v_neS, runP, runF, runI, sSeq, sSet, sRet, sRetF, sRetN, sIf, sAsg, sPar, sPar3, sExpr, sNil, sNever, sPub, sOwn, sApp, sPut, dBin, dVar, dC, dTst, dNot, dAnd, dOr, vAnd, vOr, vNot, dIf, dTup, dLst, aNil, aCons, dCall, dCallU, dCallK, dCallI, dIsi, dOwnIx, gNm, gTp, gsNil, gsCons, iR1, iEn, iLst, dListZip, dRep, ownL, ownD, putL, putD, pubS, bd_ok', v_add, v_sub, v_lt, v_le, v_gt, v_ge, v_is0, v_is1, v_eqI, v_neI, v_isII, v_isBI, List.map_cons, List.map_nil, List.cons_append, List.nil_append, List.append_nil, List.length_cons, List.length_nil, List.replicate, List.getElem?_cons_zero, List.getElem?_cons_succ, List.set_cons_zero, List.set_cons_succ, if_true, if_false, Nat.reduceAdd, Nat.reduceSub, Nat.reduceEqDiff, Bool.false_eq_true, Bool.not_true, Bool.not_false, decide_true, decide_false, and_self, eL, e1, e2, r1, m1, m2, c1, c2, v_div dv2, hsz]
/-! ### sums of members -/
theorem fm_ones (f : D → Option D) (hf : ∀ p : Int × Int, f (.tup [.int p.1, .int p.2]) = if p = (1, 1) then some (.int 1) else none) : ∀ ps : List (Int × Int), (pD ps).filterMap f = iD ((ps.filter fun p => decide (p = (1, 1))).map fun _ => 1)
  | [] => rfl
  | p :: ps => by
    show List.filterMap f (D.tup [.int p.1, .int p.2] :: pD ps) = _
    rw [List.filterMap_cons, hf p, List.filter_cons]
    by_cases h : p = (1, 1)
    · rw [if_pos h, if_pos (decide_eq_true h)]
      show D.int 1 :: List.filterMap f (pD ps) = _
      rw [fm_ones f hf ps]
      rfl
    · rw [if_neg h, if_neg (by simpa using h)]
      exact fm_ones f hf ps
theorem e_added (m n : Nat) (hm : m < 2 ^ 250) (hn : n < 2 ^ 250) : f__law_added_right [.int m, .int n] = ok (.bl true) := by
  have b3 : (2 : Nat) ^ 250 + 2 ^ 250 < 2 ^ 300 := by decide
  have e1 := e_member m (by omega)
  have e2 := e_member n (by omega)
  have e3 : f_base_member [.int ((m : Int) + n)] = ok (.int (Bm (m + n))) := e_member (m + n) (by omega)
  have d1 : f__law_digits [.int m, .int 2] = _ := e_digits (r := 2) (by decide) (by decide) m (by omega)
  have d2 : f__law_digits [.int n, .int 2] = _ := e_digits (r := 2) (by decide) (by decide) n (by omega)
  obtain ⟨_, a2, a3⟩ := Bm_add n m
  generalize hz : ((dg 2 m).zip (dg 2 n)).map (fun p : Nat × Nat => ((p.1 : Int), (p.2 : Int))) = ps
  have dz : zipD (iN (dg 2 m)) (iN (dg 2 n)) = pD ps := by rw [zipD_iN, hz]
  have mem : ((1 : Int), (1 : Int)) ∈ ps ↔ (1, 1) ∈ (dg 2 m).zip (dg 2 n) := by
    rw [← hz]
    exact mem_pN (a := 1) (b := 1)
  have hsz : 0 + 1 + 1 ≤ sizeLine := by
    show 2 ≤ 2 ^ 24
    decide
  have hs0 : 0 ≤ sizeLine := Nat.zero_le _
  have hl : (pD ps).length ≤ sizeLine := by
    rw [← dz, zipD_len, List.length_map, List.length_map]
    have := dg_len (r := 2) (by decide) 250 m hm
    have := szl (n := (dg 2 m).length) (by omega)
    omega
  have c1 : ∀ s0 : List Sl, s0 = [.val (.int m), .val (.int n), .val (.int (Bm m)), .val (.int (Bm n)), .val (.int (Bm (m + n))), .un, .un] → compL [6] (gNm 6) (dTst (dBin eqD (dVar 6) (dTup (aCons (dC (.int 1)) (aCons (dC (.int 1)) aNil))))) (dC (.int 1)) (pD ps) s0 = ok (iD ((ps.filter fun p => decide (p = (1, 1))).map fun _ => 1), s0) := by
    rintro _ rfl
    have z := compL_map (vs := [6]) (T := gNm 6) (ft := dTst (dBin eqD (dVar 6) (dTup (aCons (dC (.int 1)) (aCons (dC (.int 1)) aNil))))) (fe := dC (.int 1)) [.val (.int m), .val (.int n), .val (.int (Bm m)), .val (.int (Bm n)), .val (.int (Bm (m + n))), .un, .un] (fun d => match d with
      | .tup [.int a, .int b] => if (a, b) = (1, 1) then some (.int 1) else none
      | _ => none) (pD ps) (by
      intro d hd
      obtain ⟨⟨a, b⟩, hp, rfl⟩ := List.mem_map.mp hd
      have w := v_eqT2 a b 1 1
      by_cases c : a = 1 ∧ b = 1
      · refine .inr ⟨.int 1, _, [.val (.int m), .val (.int n), .val (.int (Bm m)), .val (.int (Bm n)), .val (.int (Bm (m + n))), .un, .val (.tup [.int a, .int b])], _, if_pos (by rw [c.1, c.2]), rfl, ?_, rfl, rfl⟩
        simp only [runP, runF, runI, sSeq, sSet, sRet, sRetF, sRetN, sIf, sAsg, sPar, sPar3, sExpr, sNil, sNever, sPub, sOwn, sApp, sPut, dBin, dVar, dC, dTst, dNot, dAnd, dOr, vAnd, vOr, vNot, dIf, dTup, dLst, aNil, aCons, dCall, dCallU, dCallK, dCallI, dIsi, dOwnIx, gNm, gTp, gsNil, gsCons, iR1, iEn, iLst, dListZip, dRep, ownL, ownD, putL, putD, pubS, bd_ok', v_add, v_sub, v_lt, v_le, v_gt, v_ge, v_is0, v_is1, v_eqI, v_neI, v_isII, v_isBI, List.map_cons, List.map_nil, List.cons_append, List.nil_append, List.append_nil, List.length_cons, List.length_nil, List.replicate, List.getElem?_cons_zero, List.getElem?_cons_succ, List.set_cons_zero, List.set_cons_succ, if_true, if_false, Nat.reduceAdd, Nat.reduceSub, Nat.reduceEqDiff, Bool.false_eq_true, Bool.not_true, Bool.not_false, decide_true, decide_false, and_self, w, c, hsz]
        rfl
      · refine .inl ⟨if_neg fun q => c ⟨congrArg Prod.fst q, congrArg Prod.snd q⟩, _, [.val (.int m), .val (.int n), .val (.int (Bm m)), .val (.int (Bm n)), .val (.int (Bm (m + n))), .un, .val (.tup [.int a, .int b])], rfl, ?_, rfl⟩
        simp only [runP, runF, runI, sSeq, sSet, sRet, sRetF, sRetN, sIf, sAsg, sPar, sPar3, sExpr, sNil, sNever, sPub, sOwn, sApp, sPut, dBin, dVar, dC, dTst, dNot, dAnd, dOr, vAnd, vOr, vNot, dIf, dTup, dLst, aNil, aCons, dCall, dCallU, dCallK, dCallI, dIsi, dOwnIx, gNm, gTp, gsNil, gsCons, iR1, iEn, iLst, dListZip, dRep, ownL, ownD, putL, putD, pubS, bd_ok', v_add, v_sub, v_lt, v_le, v_gt, v_ge, v_is0, v_is1, v_eqI, v_neI, v_isII, v_isBI, List.map_cons, List.map_nil, List.cons_append, List.nil_append, List.append_nil, List.length_cons, List.length_nil, List.replicate, List.getElem?_cons_zero, List.getElem?_cons_succ, List.set_cons_zero, List.set_cons_succ, if_true, if_false, Nat.reduceAdd, Nat.reduceSub, Nat.reduceEqDiff, Bool.false_eq_true, Bool.not_true, Bool.not_false, decide_true, decide_false, and_self, w, c, hsz])
    rw [z, fm_ones _ (fun p => rfl)]
  have c1 := c1 _ rfl
  have s1 : (Bm m : Int) + (Bm n : Int) = ((Bm m + Bm n : Nat) : Int) := by omega
  by_cases c : (1, 1) ∈ (dg 2 m).zip (dg 2 n)
  · have q : ¬ ((ps.filter fun p => decide (p = (1, 1))).map fun _ => (1 : Int)) = [] := by
      intro z
      have := List.map_eq_nil_iff.mp z
      rw [List.filter_eq_nil_iff] at this
      exact this (1, 1) (mem.mpr c) (decide_eq_true rfl)
    have w : eqD (.lst (iD ((ps.filter fun p => decide (p = (1, 1))).map fun _ => (1 : Int)))) (.lst []) = ok (.bl false) := by
      have := v_eqL ((ps.filter fun p => decide (p = (1, 1))).map fun _ => (1 : Int)) []
      rw [decide_eq_false q] at this
      exact this
    have lt : ((Bm m + Bm n : Nat) : Int) < (Bm (m + n) : Int) := by
      have := a3 c
      omega
    simp only [f__law_added_right, b__law_added_right, dComp, wipeS, restS, keepV, runP, runF, runI, sSeq, sSet, sRet, sRetF, sRetN, sIf, sAsg, sPar, sPar3, sExpr, sNil, sNever, sPub, sOwn, sApp, sPut, dBin, dVar, dC, dTst, dNot, dAnd, dOr, vAnd, vOr, vNot, dIf, dTup, dLst, aNil, aCons, dCall, dCallU, dCallK, dCallI, dIsi, dOwnIx, gNm, gTp, gsNil, gsCons, iR1, iEn, iLst, dListZip, dRep, ownL, ownD, putL, putD, pubS, bd_ok', v_add, v_sub, v_lt, v_le, v_gt, v_ge, v_is0, v_is1, v_eqI, v_neI, v_isII, v_isBI, List.map_cons, List.map_nil, List.cons_append, List.nil_append, List.append_nil, List.length_cons, List.length_nil, List.replicate, List.getElem?_cons_zero, List.getElem?_cons_succ, List.set_cons_zero, List.set_cons_succ, if_true, if_false, Nat.reduceAdd, Nat.reduceSub, Nat.reduceEqDiff, Bool.false_eq_true, Bool.not_true, Bool.not_false, decide_true, decide_false, and_self, e1, e2, e3, d1, d2, dz, hl, c1, hsz, hs0, w, s1, lt]
  · have q : ((ps.filter fun p => decide (p = (1, 1))).map fun _ => (1 : Int)) = [] := by
      rw [List.map_eq_nil_iff, List.filter_eq_nil_iff]
      intro p hp z
      have : p = (1, 1) := of_decide_eq_true z
      rw [this] at hp
      exact c (mem.mp hp)
    rw [q] at c1
    have w : eqD (.lst []) (.lst []) = ok (.bl true) := v_eqL [] []
    have eq : ((Bm m + Bm n : Nat) : Int) = (Bm (m + n) : Int) := by
      have := a2 c
      omega
    simp only [f__law_added_right, b__law_added_right, dComp, wipeS, restS, keepV, runP, runF, runI, sSeq, sSet, sRet, sRetF, sRetN, sIf, sAsg, sPar, sPar3, sExpr, sNil, sNever, sPub, sOwn, sApp, sPut, dBin, dVar, dC, dTst, dNot, dAnd, dOr, vAnd, vOr, vNot, dIf, dTup, dLst, aNil, aCons, dCall, dCallU, dCallK, dCallI, dIsi, dOwnIx, gNm, gTp, gsNil, gsCons, iR1, iEn, iLst, dListZip, dRep, ownL, ownD, putL, putD, pubS, bd_ok', v_add, v_sub, v_lt, v_le, v_gt, v_ge, v_is0, v_is1, v_eqI, v_neI, v_isII, v_isBI, List.map_cons, List.map_nil, List.cons_append, List.nil_append, List.append_nil, List.length_cons, List.length_nil, List.replicate, List.getElem?_cons_zero, List.getElem?_cons_succ, List.set_cons_zero, List.set_cons_succ, if_true, if_false, Nat.reduceAdd, Nat.reduceSub, Nat.reduceEqDiff, Bool.false_eq_true, Bool.not_true, Bool.not_false, decide_true, decide_false, and_self, e1, e2, e3, d1, d2, dz, hl, c1, hsz, hs0, w, s1, eq]
/-! ### mirrors -/
theorem dg_mem (r : Nat) (hr : 2 ≤ r) (n : Nat) : ∀ d ∈ dg r n, d < r := by
  induction n using Nat.strongRecOn with | _ n ih =>
    intro d hd
    by_cases z : n = 0
    · rw [z, dg_zero] at hd
      cases hd
    · rw [dg_pos hr (by omega), List.mem_cons] at hd
      rcases hd with h | h
      · rw [h]
        exact Nat.mod_lt _ (by omega)
      · exact ih (n / r) (Nat.div_lt_self (by omega) (by omega)) d h
theorem dg_Bm (n : Nat) : dg 3 (Bm n) = dg 2 n := by
  induction n using Nat.strongRecOn with | _ n ih =>
    by_cases z : n = 0
    · rw [z, Bm_zero, dg_zero, dg_zero]
    · have pos : 0 < Bm n := by
        have := Bm_gap n (by omega)
        have o := odd3 (v2 n)
        unfold due at this
        generalize 3 ^ v2 n = t at *
        omega
      have r := Bm_rec n
      rw [dg_pos (n := Bm n) (by decide) pos, dg_pos (n := n) (by decide) (by omega)]
      have e1 : Bm n % 3 = n % 2 := by omega
      have e2 : Bm n / 3 = Bm (n / 2) := by omega
      rw [e1, e2, ih (n / 2) (by omega)]
theorem vr2_dg (n : Nat) : vr 2 (dg 2 n) = n := by
  induction n using Nat.strongRecOn with | _ n ih =>
    by_cases z : n = 0
    · rw [z, dg_zero]
      rfl
    · rw [dg_pos (by decide) (by omega)]
      show vr 2 (dg 2 (n / 2)) * 2 + n % 2 = n
      rw [ih (n / 2) (by omega)]
      omega
theorem no2 (n : Nat) : ¬ (2 : Int) ∈ (dg 3 (Bm n)).reverse.map fun (j : Nat) => (j : Int) := by
  intro z
  have h := (mem_iN (k := 2)).mp z
  rw [List.mem_reverse, dg_Bm] at h
  exact absurd (dg_mem 2 (by decide) n 2 h) (by decide)
theorem e_plain (n : Nat) (h : Bm n < 3 ^ 300) : f_is_plain_number [.int (Bm n)] = ok (.bl true) := by
  have e1 := e_is_int0 (Bm n) (by omega)
  have e2 : f_digits_in [.int (Bm n), .int 3] = _ := e_digits_in (r := 3) (by decide) (by decide) (Bm n) h
  have e4 := v_ninL 2 ((dg 3 (Bm n)).reverse.map fun (j : Nat) => (j : Int))
  simp only [f_is_plain_number, b_is_plain_number, f_are_plain, b_are_plain, runP, runF, runI, sSeq, sSet, sRet, sRetF, sRetN, sIf, sAsg, sPar, sPar3, sExpr, sNil, sNever, sPub, sOwn, sApp, sPut, dBin, dVar, dC, dTst, dNot, dAnd, dOr, vAnd, vOr, vNot, dIf, dTup, dLst, aNil, aCons, dCall, dCallU, dCallK, dCallI, dIsi, dOwnIx, gNm, gTp, gsNil, gsCons, iR1, iEn, iLst, dListZip, dRep, ownL, ownD, putL, putD, pubS, bd_ok', v_add, v_sub, v_lt, v_le, v_gt, v_ge, v_is0, v_is1, v_eqI, v_neI, v_isII, v_isBI, List.map_cons, List.map_nil, List.cons_append, List.nil_append, List.append_nil, List.length_cons, List.length_nil, List.replicate, List.getElem?_cons_zero, List.getElem?_cons_succ, List.set_cons_zero, List.set_cons_succ, if_true, if_false, Nat.reduceAdd, Nat.reduceSub, Nat.reduceEqDiff, Bool.false_eq_true, Bool.not_true, Bool.not_false, decide_true, decide_false, and_self, e1, e2, e4, no2 n]
theorem e_rank (n : Nat) (h : Bm n < 3 ^ 300) : f_base_rank [.int (Bm n)] = ok (.int n) := by
  have e1 := e_check (Bm n) (by omega)
  have e2 : f_digits_in [.int (Bm n), .int 3] = _ := e_digits_in (r := 3) (by decide) (by decide) (Bm n) h
  have e3 : f_number_of [.lst (iN (dg 3 (Bm n)).reverse), .int 2] = _ := e_number_of 2 (by decide) (dg 3 (Bm n))
  rw [dg_Bm, vr2_dg, ← dg_Bm] at e3
  have e4 := v_ninL 2 ((dg 3 (Bm n)).reverse.map fun (j : Nat) => (j : Int))
  simp only [f_base_rank, b_base_rank, f_rank_of, b_rank_of, f_are_plain, b_are_plain, runP, runF, runI, sSeq, sSet, sRet, sRetF, sRetN, sIf, sAsg, sPar, sPar3, sExpr, sNil, sNever, sPub, sOwn, sApp, sPut, dBin, dVar, dC, dTst, dNot, dAnd, dOr, vAnd, vOr, vNot, dIf, dTup, dLst, aNil, aCons, dCall, dCallU, dCallK, dCallI, dIsi, dOwnIx, gNm, gTp, gsNil, gsCons, iR1, iEn, iLst, dListZip, dRep, ownL, ownD, putL, putD, pubS, bd_ok', v_add, v_sub, v_lt, v_le, v_gt, v_ge, v_is0, v_is1, v_eqI, v_neI, v_isII, v_isBI, List.map_cons, List.map_nil, List.cons_append, List.nil_append, List.append_nil, List.length_cons, List.length_nil, List.replicate, List.getElem?_cons_zero, List.getElem?_cons_succ, List.set_cons_zero, List.set_cons_succ, if_true, if_false, Nat.reduceAdd, Nat.reduceSub, Nat.reduceEqDiff, Bool.false_eq_true, Bool.not_true, Bool.not_false, decide_true, decide_false, and_self, e1, e2, e3, e4, no2 n]
theorem e_isP (p : Nat) (h : p ≤ 2000) : f_is_integer [.int p, .int 0, .int 2000] = ok (.bl true) := by
  have h0 : (0 : Int) ≤ p := by omega
  have h1 : (p : Int) ≤ 2000 := by omega
  simp only [f_is_integer, b_is_integer, runP, runF, runI, sSeq, sSet, sRet, sRetF, sRetN, sIf, sAsg, sPar, sPar3, sExpr, sNil, sNever, sPub, sOwn, sApp, sPut, dBin, dVar, dC, dTst, dNot, dAnd, dOr, vAnd, vOr, vNot, dIf, dTup, dLst, aNil, aCons, dCall, dCallU, dCallK, dCallI, dIsi, dOwnIx, gNm, gTp, gsNil, gsCons, iR1, iEn, iLst, dListZip, dRep, ownL, ownD, putL, putD, pubS, bd_ok', v_add, v_sub, v_lt, v_le, v_gt, v_ge, v_is0, v_is1, v_eqI, v_neI, v_isII, v_isBI, List.map_cons, List.map_nil, List.cons_append, List.nil_append, List.append_nil, List.length_cons, List.length_nil, List.replicate, List.getElem?_cons_zero, List.getElem?_cons_succ, List.set_cons_zero, List.set_cons_succ, if_true, if_false, Nat.reduceAdd, Nat.reduceSub, Nat.reduceEqDiff, Bool.false_eq_true, Bool.not_true, Bool.not_false, decide_true, decide_false, and_self, h0, h1, v_is1]
theorem e_checkP (p : Nat) (h : p ≤ 2000) : f_check_number [.int p, .int 0, .int 2000] = ok .non := by
  simp only [f_check_number, b_check_number, runP, runF, runI, sSeq, sSet, sRet, sRetF, sRetN, sIf, sAsg, sPar, sPar3, sExpr, sNil, sNever, sPub, sOwn, sApp, sPut, dBin, dVar, dC, dTst, dNot, dAnd, dOr, vAnd, vOr, vNot, dIf, dTup, dLst, aNil, aCons, dCall, dCallU, dCallK, dCallI, dIsi, dOwnIx, gNm, gTp, gsNil, gsCons, iR1, iEn, iLst, dListZip, dRep, ownL, ownD, putL, putD, pubS, bd_ok', v_add, v_sub, v_lt, v_le, v_gt, v_ge, v_is0, v_is1, v_eqI, v_neI, v_isII, v_isBI, List.map_cons, List.map_nil, List.cons_append, List.nil_append, List.append_nil, List.length_cons, List.length_nil, List.replicate, List.getElem?_cons_zero, List.getElem?_cons_succ, List.set_cons_zero, List.set_cons_succ, if_true, if_false, Nat.reduceAdd, Nat.reduceSub, Nat.reduceEqDiff, Bool.false_eq_true, Bool.not_true, Bool.not_false, decide_true, decide_false, and_self, e_isP p h]
theorem e_power3 (k : Nat) (hk : k ≤ 2000) : f_power_of [.int 3, .int k] = ok (.int (3 ^ k : Nat)) := by
  have hr : rngOk (k : Int) := ⟨by omega, by omega⟩
  have len : (rangeD 0 (k : Int).toNat).length = k := rangeD_len _ _
  have m3 := fun i : Int => v_mulR (i := i) (show -(2 ^ 64) < (3 : Int) by decide) (show (3 : Int) < 2 ^ 64 by decide)
  obtain ⟨s', eL, x, es⟩ := forL_inv (T := gNm 3) (F := sSet 2 (dBin mulI (dVar 2) (dVar 0))) (fun i s => ∃ x : Sl, s = [.val (.int 3), .val (.int k), .val (.int ((3 ^ i : Nat) : Int)), x]) (rangeD 0 (k : Int).toNat) 0 [.val (.int 3), .val (.int k), .val (.int 1), .un] ⟨.un, rfl⟩ (by
    rintro i d s hi ⟨x, rfl⟩
    rw [Nat.zero_add]
    refine ⟨[.val (.int 3), .val (.int k), .val (.int ((3 ^ i : Nat) : Int)), .val d], _, rfl, ?_, .val d, rfl⟩
    have e3 : ((3 ^ (i + 1) : Nat) : Int) = ((3 ^ i : Nat) : Int) * 3 := by
      rw [Nat.pow_succ]
      omega
    simp only [runP, runF, runI, sSeq, sSet, sRet, sRetF, sRetN, sIf, sAsg, sPar, sPar3, sExpr, sNil, sNever, sPub, sOwn, sApp, sPut, dBin, dVar, dC, dTst, dNot, dAnd, dOr, vAnd, vOr, vNot, dIf, dTup, dLst, aNil, aCons, dCall, dCallU, dCallK, dCallI, dIsi, dOwnIx, gNm, gTp, gsNil, gsCons, iR1, iEn, iLst, dListZip, dRep, ownL, ownD, putL, putD, pubS, bd_ok', v_add, v_sub, v_lt, v_le, v_gt, v_ge, v_is0, v_is1, v_eqI, v_neI, v_isII, v_isBI, List.map_cons, List.map_nil, List.cons_append, List.nil_append, List.append_nil, List.length_cons, List.length_nil, List.replicate, List.getElem?_cons_zero, List.getElem?_cons_succ, List.set_cons_zero, List.set_cons_succ, if_true, if_false, Nat.reduceAdd, Nat.reduceSub, Nat.reduceEqDiff, Bool.false_eq_true, Bool.not_true, Bool.not_false, decide_true, decide_false, and_self, m3, e3])
  rw [len, Nat.zero_add] at es
  subst es
  simp only [f_power_of, b_power_of, sFor, runP, runF, runI, sSeq, sSet, sRet, sRetF, sRetN, sIf, sAsg, sPar, sPar3, sExpr, sNil, sNever, sPub, sOwn, sApp, sPut, dBin, dVar, dC, dTst, dNot, dAnd, dOr, vAnd, vOr, vNot, dIf, dTup, dLst, aNil, aCons, dCall, dCallU, dCallK, dCallI, dIsi, dOwnIx, gNm, gTp, gsNil, gsCons, iR1, iEn, iLst, dListZip, dRep, ownL, ownD, putL, putD, pubS, bd_ok', v_add, v_sub, v_lt, v_le, v_gt, v_ge, v_is0, v_is1, v_eqI, v_neI, v_isII, v_isBI, List.map_cons, List.map_nil, List.cons_append, List.nil_append, List.append_nil, List.length_cons, List.length_nil, List.replicate, List.getElem?_cons_zero, List.getElem?_cons_succ, List.set_cons_zero, List.set_cons_succ, if_true, if_false, Nat.reduceAdd, Nat.reduceSub, Nat.reduceEqDiff, Bool.false_eq_true, Bool.not_true, Bool.not_false, decide_true, decide_false, and_self, hr, eL]
theorem e_mirror (n p : Nat) (hp : p ≤ 2000) (h : Bm n < 3 ^ 300) (hle : Bm n ≤ (3 ^ p - 1) / 2) : f_mirror [.int (Bm n), .int p] = ok (.int ((3 ^ p - 1) / 2 - Bm n : Nat)) := by
  have e1 := e_checkP p hp
  have e2 := e_power3 p hp
  have e3 := e_plain n h
  have p3 : 0 < 3 ^ p := Nat.pow_pos (by decide)
  have g1 : ((3 ^ p : Nat) : Int) - 1 = ((3 ^ p - 1 : Nat) : Int) := by omega
  have g2 : ((3 ^ p - 1 : Nat) : Int) / 2 = (((3 ^ p - 1) / 2 : Nat) : Int) := rfl
  have g3 : ¬ (((3 ^ p - 1) / 2 : Nat) : Int) < (Bm n : Int) := by omega
  have g4 : (((3 ^ p - 1) / 2 : Nat) : Int) - (Bm n : Int) = (((3 ^ p - 1) / 2 - Bm n : Nat) : Int) := by omega
  simp only [f_mirror, b_mirror, runP, runF, runI, sSeq, sSet, sRet, sRetF, sRetN, sIf, sAsg, sPar, sPar3, sExpr, sNil, sNever, sPub, sOwn, sApp, sPut, dBin, dVar, dC, dTst, dNot, dAnd, dOr, vAnd, vOr, vNot, dIf, dTup, dLst, aNil, aCons, dCall, dCallU, dCallK, dCallI, dIsi, dOwnIx, gNm, gTp, gsNil, gsCons, iR1, iEn, iLst, dListZip, dRep, ownL, ownD, putL, putD, pubS, bd_ok', v_add, v_sub, v_lt, v_le, v_gt, v_ge, v_is0, v_is1, v_eqI, v_neI, v_isII, v_isBI, List.map_cons, List.map_nil, List.cons_append, List.nil_append, List.append_nil, List.length_cons, List.length_nil, List.replicate, List.getElem?_cons_zero, List.getElem?_cons_succ, List.set_cons_zero, List.set_cons_succ, if_true, if_false, Nat.reduceAdd, Nat.reduceSub, Nat.reduceEqDiff, Bool.false_eq_true, Bool.not_true, Bool.not_false, decide_true, decide_false, and_self, e1, e2, e3, g1, g2, g3, g4, v_div dv2]
theorem Bm_comp : ∀ t n : Nat, n < 2 ^ t → 2 * (Bm (2 ^ t - 1 - n) + Bm n) + 1 = 3 ^ t
  | 0, n, h => by
    have : n = 0 := by omega
    subst this
    show 2 * (Bm 0 + Bm 0) + 1 = 1
    rw [Bm_zero]
  | t + 1, n, h => by
    rw [Nat.pow_succ] at h
    have ih := Bm_comp t (n / 2) (by omega)
    rw [Bm_rec (2 ^ (t + 1) - 1 - n), Bm_rec n]
    have e1 : (2 ^ (t + 1) - 1 - n) / 2 = 2 ^ t - 1 - n / 2 := by
      rw [Nat.pow_succ]
      omega
    have e2 : (2 ^ (t + 1) - 1 - n) % 2 + n % 2 = 1 := by
      rw [Nat.pow_succ]
      omega
    rw [e1, Nat.pow_succ]
    omega
theorem e_order {a b c : D} {q : Int} (h0 : 0 ≤ q) (h1 : q < 3) : ∃ d, L2.atI [a, b, c] q = some d ∧ (d = a ∨ d = b ∨ d = c) := by
  rcases (show q = 0 ∨ q = 1 ∨ q = 2 by omega) with z | z | z
  · subst z
    exact ⟨a, rfl, .inl rfl⟩
  · subst z
    exact ⟨b, rfl, .inr (.inl rfl)⟩
  · subst z
    exact ⟨c, rfl, .inr (.inr rfl)⟩
theorem e_mirror_right {k : Nat} {d : D} (h : Strm k d) (hk : k < 10000) : ∃ d', f__law_mirror_right d [] = ok (.bl true, d') ∧ Strm (k + 3) d' := by
  obtain ⟨w, d1, e1, w0, w1, s1⟩ := e_draw (top := 200) h (by omega) (by decide) (dvSmall (n := 200) (by decide) (by decide))
  obtain ⟨t, rfl⟩ : ∃ t : Nat, w = t := ⟨w.toNat, by omega⟩
  have ht : t < 200 := by omega
  have hr : rngOk (t : Int) := ⟨by omega, by omega⟩
  have len : (rangeD 0 (t : Int).toNat).length = t := rangeD_len _ _
  have m2 := fun i : Int => v_mulL (j := i) (show -(2 ^ 64) < (2 : Int) by decide) (show (2 : Int) < 2 ^ 64 by decide)
  obtain ⟨s', eL, x, es⟩ := forL_inv (T := gNm 3) (F := sSet 2 (dBin mulI (dC (.int 2)) (dVar 2))) (fun i s => ∃ x : Sl, s = [.io d1, .val (.int t), .val (.int ((2 ^ i : Nat) : Int)), x, .un, .un, .un, .un]) (rangeD 0 (t : Int).toNat) 0 [.io d1, .val (.int t), .val (.int 1), .un, .un, .un, .un, .un] ⟨.un, rfl⟩ (by
    rintro i d s hi ⟨x, rfl⟩
    rw [Nat.zero_add]
    refine ⟨[.io d1, .val (.int t), .val (.int ((2 ^ i : Nat) : Int)), .val d, .un, .un, .un, .un], _, rfl, ?_, .val d, rfl⟩
    have e3 : ((2 ^ (i + 1) : Nat) : Int) = 2 * ((2 ^ i : Nat) : Int) := by
      rw [Nat.pow_succ]
      omega
    simp only [runP, runF, runI, sSeq, sSet, sRet, sRetF, sRetN, sIf, sAsg, sPar, sPar3, sExpr, sNil, sNever, sPub, sOwn, sApp, sPut, dBin, dVar, dC, dTst, dNot, dAnd, dOr, vAnd, vOr, vNot, dIf, dTup, dLst, aNil, aCons, dCall, dCallU, dCallK, dCallI, dIsi, dOwnIx, gNm, gTp, gsNil, gsCons, iR1, iEn, iLst, dListZip, dRep, ownL, ownD, putL, putD, pubS, bd_ok', v_add, v_sub, v_lt, v_le, v_gt, v_ge, v_is0, v_is1, v_eqI, v_neI, v_isII, v_isBI, List.map_cons, List.map_nil, List.cons_append, List.nil_append, List.append_nil, List.length_cons, List.length_nil, List.replicate, List.getElem?_cons_zero, List.getElem?_cons_succ, List.set_cons_zero, List.set_cons_succ, if_true, if_false, Nat.reduceAdd, Nat.reduceSub, Nat.reduceEqDiff, Bool.false_eq_true, Bool.not_true, Bool.not_false, decide_true, decide_false, and_self, m2, e3])
  rw [len, Nat.zero_add] at es
  subst es
  have pt : 2 ^ t ≤ 2 ^ 200 := Nat.pow_le_pow_right (by decide) (by omega)
  have b1 : (2 : Nat) ^ 200 < 2 ^ 300 := Nat.pow_lt_pow_right (by decide) (by decide)
  have b2 : (2 : Nat) ^ 300 < 2 ^ 400 := Nat.pow_lt_pow_right (by decide) (by decide)
  have pp : 0 < 2 ^ t := Nat.pow_pos (by decide)
  obtain ⟨o, d2, e2, o0, o1, s2⟩ := e_draw (top := ((2 ^ t : Nat) : Int)) s1 (by omega) (by omega) (dvSmall pp (by omega))
  obtain ⟨q, d3, e3, q0, q1, s3⟩ := e_draw (top := 3) s2 (by omega) (by decide) (dvSmall (n := 3) (by decide) (by decide))
  obtain ⟨r, er, hr2⟩ := e_order (a := .int 0) (b := .int (((2 ^ t : Nat) : Int) - 1)) (c := .int o) q0 q1
  obtain ⟨n, rfl, hn⟩ : ∃ n : Nat, r = .int n ∧ n < 2 ^ t := by
    rcases hr2 with z | z | z
    · exact ⟨0, z, pp⟩
    · exact ⟨2 ^ t - 1, by rw [z]; congr 1; omega, by omega⟩
    · exact ⟨o.toNat, by rw [z]; congr 1; omega, by omega⟩
  have g1 : ((2 ^ t : Nat) : Int) - 1 - (n : Int) = ((2 ^ t - 1 - n : Nat) : Int) := by omega
  have M1 := e_member n (by omega)
  have M2 := e_member (2 ^ t - 1 - n) (by omega)
  have cp := Bm_comp t n hn
  have b3 : 3 ^ t ≤ 3 ^ 200 := Nat.pow_le_pow_right (by decide) (by omega)
  have b4 : (3 : Nat) ^ 200 < 3 ^ 300 := Nat.pow_lt_pow_right (by decide) (by decide)
  have R1 : f_mirror [.int (Bm n), .int t] = ok (.int (Bm (2 ^ t - 1 - n))) := by
    rw [e_mirror n t (by omega) (by omega) (by omega)]
    congr 3
    omega
  have R2 : f_mirror [.int (Bm (2 ^ t - 1 - n)), .int t] = ok (.int (Bm n)) := by
    rw [e_mirror (2 ^ t - 1 - n) t (by omega) (by omega) (by omega)]
    congr 3
    omega
  have K1 := e_rank (2 ^ t - 1 - n) (by omega)
  have b5 : (3 : Nat) ^ 200 < 2 ^ 1000 := by decide
  have r1 := repr2 (a := Bm (2 ^ t - 1 - n)) (by omega)
  have h3 : 0 + 1 + 1 + 1 ≤ sizeLine := by
    show 3 ≤ 2 ^ 24
    decide
  have h2 : 0 + 1 + 1 ≤ sizeLine := by
    show 2 ≤ 2 ^ 24
    decide
  refine ⟨d3, ?_, s3.mono (by omega)⟩
  simp only [f__law_mirror_right, b__law_mirror_right, sFor, sw2, v_eqS, ixL, runP, runF, runI, sSeq, sSet, sRet, sRetF, sRetN, sIf, sAsg, sPar, sPar3, sExpr, sNil, sNever, sPub, sOwn, sApp, sPut, dBin, dVar, dC, dTst, dNot, dAnd, dOr, vAnd, vOr, vNot, dIf, dTup, dLst, aNil, aCons, dCall, dCallU, dCallK, dCallI, dIsi, dOwnIx, gNm, gTp, gsNil, gsCons, iR1, iEn, iLst, dListZip, dRep, ownL, ownD, putL, putD, pubS, bd_ok', v_add, v_sub, v_lt, v_le, v_gt, v_ge, v_is0, v_is1, v_eqI, v_neI, v_isII, v_isBI, List.map_cons, List.map_nil, List.cons_append, List.nil_append, List.append_nil, List.length_cons, List.length_nil, List.replicate, List.getElem?_cons_zero, List.getElem?_cons_succ, List.set_cons_zero, List.set_cons_succ, if_true, if_false, Nat.reduceAdd, Nat.reduceSub, Nat.reduceEqDiff, Bool.false_eq_true, Bool.not_true, Bool.not_false, decide_true, decide_false, and_self, e1, hr, eL, e2, e3, er, M1, g1, M2, R1, R2, r1, K1, h3, h2]
/-! ### the law -/
theorem cut_iD (ns : List Int) (lo hi : Option Int) : ∃ ms : List Int, cutD (iD ns) lo hi = iD ms ∧ ms.length ≤ ns.length := by
  refine ⟨(ns.drop (HT.sIx ns.length 0 lo)).take (HT.sIx ns.length ns.length hi - HT.sIx ns.length 0 lo), ?_, ?_⟩
  · unfold cutD iD
    rw [List.length_map, List.map_take, List.map_drop]
  · rw [List.length_take, List.length_drop]
    omega
theorem enum_at : ∀ (ds : List D) (k i : Nat) (d : D), (enumD k ds)[i]? = some d → ∃ e, ds[i]? = some e ∧ d = .tup [.int ((k + i : Nat) : Int), e]
  | [], k, i, d, h => by simp [enumD] at h
  | e :: es, k, 0, d, h => by
    cases h
    exact ⟨e, rfl, rfl⟩
  | e :: es, k, i + 1, d, h => by
    obtain ⟨e', h1, h2⟩ := enum_at es (k + 1) i d (by simpa [enumD] using h)
    exact ⟨e', by simpa using h1, by rw [h2, show k + 1 + i = k + (i + 1) by omega]⟩
theorem enum_len : ∀ (ds : List D) (k : Nat), (enumD k ds).length = ds.length
  | [], _ => rfl
  | _ :: ds, k => by
    rw [enumD, List.length_cons, enum_len ds (k + 1)]
    rfl
theorem rangeD_iN (n : Nat) : rangeD 0 n = iN (List.range n) := by
  unfold rangeD iN iD
  rw [List.map_map]
  congr 1
  funext k
  simp
theorem comp_all (v : Nat) (fe : S → M (D × S)) (h : Nat → Nat) (s0 : S) (hs : ∀ x, (s0.set v x).set v .un = s0) : ∀ ns : List Nat, (∀ k ∈ ns, fe (s0.set v (.val (.int k))) = ok (.int (h k), s0.set v (.val (.int k)))) → compL [v] (gNm v) tTrue fe (iN ns) s0 = ok (iN (ns.map h), s0)
  | [], _ => rfl
  | n :: ns, hf => by
    have ih := comp_all v fe h s0 hs ns fun k hk => hf k (List.mem_cons_of_mem _ hk)
    have e := hf n (List.mem_cons_self ..)
    show bd (ok (s0.set v (.val (.int n)))) _ = _
    rw [bd_ok']
    show bd (fe (s0.set v (.val (.int n)))) _ = _
    rw [e, bd_ok']
    show bd (compL [v] (gNm v) tTrue fe (iN ns) ((s0.set v (.val (.int n))).set v .un)) _ = _
    rw [hs, ih]
    rfl
theorem SB_sum : ∀ k : Nat, ((List.range k).map Bm).sum = SB k
  | 0 => rfl
  | k + 1 => by
    rw [List.range_succ, List.map_append, List.sum_append, SB_sum k]
    show SB k + (Bm k + 0) = SB k + Bm k
    omega
theorem sum_cast : ∀ ns : List Nat, (ns.map fun (k : Nat) => (k : Int)).sum = ((ns.sum : Nat) : Int)
  | [] => rfl
  | n :: ns => by
    rw [List.map_cons, List.sum_cons, sum_cast ns, List.sum_cons]
    omega
theorem cut_iN (ns : List Nat) (k : Nat) : cutD (iN ns) none (some (k : Int)) = iN (ns.take k) := by
  unfold cutD
  rw [HT.sIx_none, HT.sIx_nat]
  rw [List.length_map, List.length_map, List.drop_zero, Nat.sub_zero, ← List.map_take, ← List.map_take]
  congr 2
  rw [← List.take_eq_take_min]
abbrev inner : S → M Out := sSeq (sPar 7 8 (aCons (dCallI 5 1 f__law_number aNil) (aCons (dCallI 5 1 f__law_number aNil) aNil)))
    (sSeq (sIf (dOr (dNot (dTst (dCallU 1 f__law_gap_right [] (aCons (dBin addI (dVar 7) (dC (.int 1))) aNil)))) (dOr (dNot (dTst (dCallU 1 f__law_sum_right [] (aCons (dVar 8) aNil)))) (dNot (dTst (dCallU 2 f__law_added_right [] (aCons (dVar 7) (aCons (dVar 8) aNil)))))))
    (sRet (dC (.bl false)))
    sNil)
    (sIf (dOr (dNot (dTst (dCallI 5 1 f__law_mirror_right aNil))) (dNot (dTst (dCallU 2 f__law_added_right [] (aCons (dVar 7) (aCons (dCallI 5 2 f__law_draw (aCons (dC (.int 64)) aNil)) aNil))))))
    (sRet (dC (.bl false)))
    sNil))
theorem e_inner {a b c e f x y z w : Sl} {n : Nat} {d : D} (h : Strm n d) (hn : n < 5000) : ∃ d' x' y', inner [a, b, c, e, f, .own d, z, x, y, w] = ok (.nx [a, b, c, e, f, .own d', z, x', y', w]) ∧ Strm (n + 300) d' := by
  obtain ⟨r, d1, e1, r0, r1, s1⟩ := e_number h (by omega)
  obtain ⟨q, d2, e2, q0, q1, s2⟩ := e_number s1 (by omega)
  obtain ⟨d3, e3, s3⟩ := e_mirror_right s2 (by omega)
  obtain ⟨p, d4, e4, p0, p1, s4⟩ := e_draw (top := 64) s3 (by omega) (by decide) (dvSmall (n := 64) (by decide) (by decide))
  have b1 : (3 : Int) ^ 126 < 2 ^ 249 := by decide
  have b2 : (2 : Nat) ^ 249 < 2 ^ 250 := by decide
  have b3 : (2 : Nat) ^ 250 < 2 ^ 300 := by decide
  obtain ⟨i, rfl⟩ : ∃ i : Nat, r = i := ⟨r.toNat, by omega⟩
  obtain ⟨j, rfl⟩ : ∃ j : Nat, q = j := ⟨q.toNat, by omega⟩
  obtain ⟨k, rfl⟩ : ∃ k : Nat, p = k := ⟨p.toNat, by omega⟩
  have f1 : f__law_gap_right [.int ((i : Int) + 1)] = ok (.bl true) := e_gap_right (i + 1) (by omega) (by omega)
  have f2 := e_sum_right j (by omega)
  have f3 := e_added i j (by omega) (by omega)
  have f4 := e_added i k (by omega) (by omega)
  refine ⟨d4, .val (.int i), .val (.int j), ?_, s4.mono (by omega)⟩
  simp only [inner, runP, runF, runI, sSeq, sSet, sRet, sRetF, sRetN, sIf, sAsg, sPar, sPar3, sExpr, sNil, sNever, sPub, sOwn, sApp, sPut, dBin, dVar, dC, dTst, dNot, dAnd, dOr, vAnd, vOr, vNot, dIf, dTup, dLst, aNil, aCons, dCall, dCallU, dCallK, dCallI, dIsi, dOwnIx, gNm, gTp, gsNil, gsCons, iR1, iEn, iLst, dListZip, dRep, ownL, ownD, putL, putD, pubS, bd_ok', v_add, v_sub, v_lt, v_le, v_gt, v_ge, v_is0, v_is1, v_eqI, v_neI, v_isII, v_isBI, List.map_cons, List.map_nil, List.cons_append, List.nil_append, List.append_nil, List.length_cons, List.length_nil, List.replicate, List.getElem?_cons_zero, List.getElem?_cons_succ, List.set_cons_zero, List.set_cons_succ, if_true, if_false, Nat.reduceAdd, Nat.reduceSub, Nat.reduceEqDiff, Bool.false_eq_true, Bool.not_true, Bool.not_false, decide_true, decide_false, and_self, e1, e2, e3, e4, f1, f2, f3, f4]
abbrev outer : S → M Out := sSeq (sOwn 5 (dCallU 2 f__law_stream [] (aCons (dVar 4) (aCons (dVar 3) aNil))))
    (sFor (iR1 (aCons (dC (.int 3)) aNil)) (gNm 6) inner)
theorem e_outer {a b c x5 x6 x7 x8 w : Sl} {k : Nat} {item : Int} (hk : k < 100) : ∃ y5 y6 y7 y8, outer [a, b, c, .val (.int k), .val (.int item), x5, x6, x7, x8, w] = ok (.nx [a, b, c, .val (.int k), .val (.int item), y5, y6, y7, y8, w]) := by
  obtain ⟨d, e1, s1⟩ := e_stream item k (by omega) (by omega)
  have hr : rngOk 3 := by decide
  obtain ⟨s', eL, d2, y6, y7, y8, rfl, s2⟩ := forL_inv (T := gNm 6) (F := inner) (fun i s => ∃ (d : D) (y6 y7 y8 : Sl), s = [a, b, c, .val (.int k), .val (.int item), .own d, y6, y7, y8, w] ∧ Strm (300 * i) d) (rangeD 0 (3 : Int).toNat) 0 [a, b, c, .val (.int k), .val (.int item), .own d, x6, x7, x8, w] ⟨d, x6, x7, x8, rfl, s1⟩ (by
    rintro i dd s hi ⟨d', y6, y7, y8, rfl, q⟩
    rw [Nat.zero_add] at q ⊢
    have hi' : i < 3 := (List.getElem?_eq_some_iff.mp hi).1
    obtain ⟨d3, x', y', e3, s3⟩ := e_inner (a := a) (b := b) (c := c) (e := .val (.int k)) (f := .val (.int item)) (x := y7) (y := y8) (z := .val dd) (w := w) q (by omega)
    exact ⟨_, _, rfl, e3, d3, _, x', y', rfl, s3.mono (by omega)⟩)
  refine ⟨.own d2, y6, y7, y8, ?_⟩
  simp only [outer, sFor, runP, runF, runI, sSeq, sSet, sRet, sRetF, sRetN, sIf, sAsg, sPar, sPar3, sExpr, sNil, sNever, sPub, sOwn, sApp, sPut, dBin, dVar, dC, dTst, dNot, dAnd, dOr, vAnd, vOr, vNot, dIf, dTup, dLst, aNil, aCons, dCall, dCallU, dCallK, dCallI, dIsi, dOwnIx, gNm, gTp, gsNil, gsCons, iR1, iEn, iLst, dListZip, dRep, ownL, ownD, putL, putD, pubS, bd_ok', v_add, v_sub, v_lt, v_le, v_gt, v_ge, v_is0, v_is1, v_eqI, v_neI, v_isII, v_isBI, List.map_cons, List.map_nil, List.cons_append, List.nil_append, List.append_nil, List.length_cons, List.length_nil, List.replicate, List.getElem?_cons_zero, List.getElem?_cons_succ, List.set_cons_zero, List.set_cons_succ, if_true, if_false, Nat.reduceAdd, Nat.reduceSub, Nat.reduceEqDiff, Bool.false_eq_true, Bool.not_true, Bool.not_false, decide_true, decide_false, and_self, e1, hr, eL]
theorem law_true (ns : List Int) (h : ns.length ≤ 63) : f_law [.lst (ns.map D.int)] = ok (.bl true) := by
  have c0 : (iD ns).length + (0 + 1) ≤ sizeLine := by
    rw [List.length_map]
    show _ ≤ 2 ^ 24
    omega
  have hr70 : rngOk 70 := by decide
  have er : rangeD 0 (70 : Int).toNat = iN (List.range 70) := rangeD_iN 70
  have hz : (iN (List.range 70)).length ≤ sizeLine := by
    rw [List.length_map, List.length_map, List.length_range]
    show 70 ≤ 2 ^ 24
    decide
  have b70 : ∀ k ∈ List.range 70, k < 2 ^ 300 := fun k hk => Nat.lt_of_lt_of_le (List.mem_range.mp hk) (by decide)
  have c1 : compL [2] (gNm 2) tTrue (dCallU 1 f_base_member [] (aCons (dVar 2) aNil)) (iN (List.range 70)) [.val (.lst (iD ns)), .un, .un, .un, .un, .un, .un, .un, .un, .un] = ok (iN ((List.range 70).map Bm), [.val (.lst (iD ns)), .un, .un, .un, .un, .un, .un, .un, .un, .un]) := comp_all 2 _ Bm _ (fun _ => rfl) _ fun k hk => by
    have := e_member k (b70 k hk)
    simp only [runP, runF, runI, sSeq, sSet, sRet, sRetF, sRetN, sIf, sAsg, sPar, sPar3, sExpr, sNil, sNever, sPub, sOwn, sApp, sPut, dBin, dVar, dC, dTst, dNot, dAnd, dOr, vAnd, vOr, vNot, dIf, dTup, dLst, aNil, aCons, dCall, dCallU, dCallK, dCallI, dIsi, dOwnIx, gNm, gTp, gsNil, gsCons, iR1, iEn, iLst, dListZip, dRep, ownL, ownD, putL, putD, pubS, bd_ok', v_add, v_sub, v_lt, v_le, v_gt, v_ge, v_is0, v_is1, v_eqI, v_neI, v_isII, v_isBI, List.map_cons, List.map_nil, List.cons_append, List.nil_append, List.append_nil, List.length_cons, List.length_nil, List.replicate, List.getElem?_cons_zero, List.getElem?_cons_succ, List.set_cons_zero, List.set_cons_succ, if_true, if_false, Nat.reduceAdd, Nat.reduceSub, Nat.reduceEqDiff, Bool.false_eq_true, Bool.not_true, Bool.not_false, decide_true, decide_false, and_self, this]
  have c2 : compL [2] (gNm 2) tTrue (dCallU 1 f_base_sum [] (aCons (dVar 2) aNil)) (iN (List.range 70)) [.val (.lst (iD ns)), .val (.lst (iN ((List.range 70).map Bm))), .un, .un, .un, .un, .un, .un, .un, .un] = ok (iN ((List.range 70).map SB), [.val (.lst (iD ns)), .val (.lst (iN ((List.range 70).map Bm))), .un, .un, .un, .un, .un, .un, .un, .un]) := comp_all 2 _ SB _ (fun _ => rfl) _ fun k hk => by
    have := e_sum k (b70 k hk)
    simp only [runP, runF, runI, sSeq, sSet, sRet, sRetF, sRetN, sIf, sAsg, sPar, sPar3, sExpr, sNil, sNever, sPub, sOwn, sApp, sPut, dBin, dVar, dC, dTst, dNot, dAnd, dOr, vAnd, vOr, vNot, dIf, dTup, dLst, aNil, aCons, dCall, dCallU, dCallK, dCallI, dIsi, dOwnIx, gNm, gTp, gsNil, gsCons, iR1, iEn, iLst, dListZip, dRep, ownL, ownD, putL, putD, pubS, bd_ok', v_add, v_sub, v_lt, v_le, v_gt, v_ge, v_is0, v_is1, v_eqI, v_neI, v_isII, v_isBI, List.map_cons, List.map_nil, List.cons_append, List.nil_append, List.append_nil, List.length_cons, List.length_nil, List.replicate, List.getElem?_cons_zero, List.getElem?_cons_succ, List.set_cons_zero, List.set_cons_succ, if_true, if_false, Nat.reduceAdd, Nat.reduceSub, Nat.reduceEqDiff, Bool.false_eq_true, Bool.not_true, Bool.not_false, decide_true, decide_false, and_self, this]
  have c3 : compL [2] (gNm 2) tTrue (dCall sumN (aCons (dCutL (dVar 1) partNo (partAt (dVar 2))) aNil)) (iN (List.range 70)) [.val (.lst (iD ns)), .val (.lst (iN ((List.range 70).map Bm))), .un, .un, .un, .un, .un, .un, .un, .un] = ok (iN ((List.range 70).map SB), [.val (.lst (iD ns)), .val (.lst (iN ((List.range 70).map Bm))), .un, .un, .un, .un, .un, .un, .un, .un]) := comp_all 2 _ SB _ (fun _ => rfl) _ fun k hk => by
    have ec := cut_iN ((List.range 70).map Bm) k
    have hk := List.mem_range.mp hk
    have et : ((List.range 70).map Bm).take k = (List.range k).map Bm := by
      rw [← List.map_take, List.take_range, Nat.min_eq_left (by omega)]
    rw [et] at ec
    have es : sumN [.lst (iN ((List.range k).map Bm))] = ok (.int (SB k)) := by
      unfold sumN
      dsimp only
      rw [ints?_map]
      dsimp only
      rw [sum_cast, SB_sum]
    simp only [dCutL, partNo, partAt, runP, runF, runI, sSeq, sSet, sRet, sRetF, sRetN, sIf, sAsg, sPar, sPar3, sExpr, sNil, sNever, sPub, sOwn, sApp, sPut, dBin, dVar, dC, dTst, dNot, dAnd, dOr, vAnd, vOr, vNot, dIf, dTup, dLst, aNil, aCons, dCall, dCallU, dCallK, dCallI, dIsi, dOwnIx, gNm, gTp, gsNil, gsCons, iR1, iEn, iLst, dListZip, dRep, ownL, ownD, putL, putD, pubS, bd_ok', v_add, v_sub, v_lt, v_le, v_gt, v_ge, v_is0, v_is1, v_eqI, v_neI, v_isII, v_isBI, List.map_cons, List.map_nil, List.cons_append, List.nil_append, List.append_nil, List.length_cons, List.length_nil, List.replicate, List.getElem?_cons_zero, List.getElem?_cons_succ, List.set_cons_zero, List.set_cons_succ, if_true, if_false, Nat.reduceAdd, Nat.reduceSub, Nat.reduceEqDiff, Bool.false_eq_true, Bool.not_true, Bool.not_false, decide_true, decide_false, and_self, ec, es]
  have w1 : neD (.lst (iN ((List.range 70).map SB))) (.lst (iN ((List.range 70).map SB))) = ok (.bl (!true)) := by
    have := v_neL (((List.range 70).map SB).map fun (k : Nat) => (k : Int)) (((List.range 70).map SB).map fun (k : Nat) => (k : Int))
    rw [decide_eq_true rfl] at this
    exact this
  obtain ⟨ms, ec, hm⟩ := cut_iD (ns ++ [0]) none (some 9)
  have ea : iD ns ++ [.int 0] = iD (ns ++ [0]) := by simp
  generalize iN ((List.range 70).map Bm) = PL at c1 c2 c3
  obtain ⟨s', eL, x1, x2, x3, x4, x5, x6, rfl⟩ := forL_inv (T := gTp (gsCons (gNm 3) (gsCons (gNm 4) gsNil))) (F := outer) (fun i s => ∃ (x1 x2 x3 x4 x5 x6 : Sl), s = [.val (.lst (iD ns)), .val (.lst PL), .un, x1, x2, x3, x4, x5, x6, .un]) (enumD 0 (iD ms)) 0 [.val (.lst (iD ns)), .val (.lst PL), .un, .un, .un, .un, .un, .un, .un, .un] ⟨_, _, _, _, _, _, rfl⟩ (by
    rintro i d s hi ⟨x1, x2, x3, x4, x5, x6, rfl⟩
    obtain ⟨e, h1, rfl⟩ := enum_at _ _ _ _ hi
    obtain ⟨h2, h3⟩ := List.getElem?_eq_some_iff.mp h1
    rw [List.getElem_map] at h3
    subst h3
    rw [List.length_map] at h2
    rw [List.length_append] at hm
    have hm : ms.length ≤ ns.length + 1 := hm
    obtain ⟨y5, y6, y7, y8, e3⟩ := e_outer (a := .val (.lst (iD ns))) (b := .val (.lst PL)) (c := .un) (x5 := x3) (x6 := x4) (x7 := x5) (x8 := x6) (w := .un) (k := 0 + i) (item := ms[i]) (by omega)
    exact ⟨_, _, rfl, e3, _, _, _, _, _, _, rfl⟩)
  -- the last loop
  have hr2 : rngOk 2000 := by decide
  have len : (rangeD 0 (2000 : Int).toNat).length = 2000 := rangeD_len _ _
  have m3 := fun i : Int => v_mulL (j := i) (show -(2 ^ 64) < (3 : Int) by decide) (show (3 : Int) < 2 ^ 64 by decide)
  obtain ⟨s2, eM, y, es⟩ := forL_inv (T := gNm 6) (F := sSet 9 (dBin mulI (dC (.int 3)) (dVar 9))) (fun i s => ∃ y : Sl, s = [.val (.lst (iD ns)), .val (.lst PL), .un, x1, x2, x3, y, x5, x6, .val (.int ((3 ^ i : Nat) : Int))]) (rangeD 0 (2000 : Int).toNat) 0 [.val (.lst (iD ns)), .val (.lst PL), .un, x1, x2, x3, x4, x5, x6, .val (.int 1)] ⟨x4, rfl⟩ (by
    rintro i d s hi ⟨y, rfl⟩
    rw [Nat.zero_add]
    refine ⟨[.val (.lst (iD ns)), .val (.lst PL), .un, x1, x2, x3, .val d, x5, x6, .val (.int ((3 ^ i : Nat) : Int))], _, rfl, ?_, .val d, rfl⟩
    have e3 : ((3 ^ (i + 1) : Nat) : Int) = 3 * ((3 ^ i : Nat) : Int) := by
      rw [Nat.pow_succ]
      omega
    simp only [runP, runF, runI, sSeq, sSet, sRet, sRetF, sRetN, sIf, sAsg, sPar, sPar3, sExpr, sNil, sNever, sPub, sOwn, sApp, sPut, dBin, dVar, dC, dTst, dNot, dAnd, dOr, vAnd, vOr, vNot, dIf, dTup, dLst, aNil, aCons, dCall, dCallU, dCallK, dCallI, dIsi, dOwnIx, gNm, gTp, gsNil, gsCons, iR1, iEn, iLst, dListZip, dRep, ownL, ownD, putL, putD, pubS, bd_ok', v_add, v_sub, v_lt, v_le, v_gt, v_ge, v_is0, v_is1, v_eqI, v_neI, v_isII, v_isBI, List.map_cons, List.map_nil, List.cons_append, List.nil_append, List.append_nil, List.length_cons, List.length_nil, List.replicate, List.getElem?_cons_zero, List.getElem?_cons_succ, List.set_cons_zero, List.set_cons_succ, if_true, if_false, Nat.reduceAdd, Nat.reduceSub, Nat.reduceEqDiff, Bool.false_eq_true, Bool.not_true, Bool.not_false, decide_true, decide_false, and_self, m3, e3])
  rw [len, Nat.zero_add] at es
  subst es
  have B5 : Bm 5 = 10 := by
    rw [Bm_rec 5, Bm_rec (5 / 2), Bm_rec (5 / 2 / 2)]
    show 3 * (3 * (3 * Bm 0 + 1) + 0) + 1 = 10
    rw [Bm_zero]
  have lo : 3 ^ 5 ≤ 3 ^ 2000 := Nat.pow_le_pow_right (by decide) (by decide)
  have M0 := e_mirror 0 2000 (Nat.le_refl _) (by rw [Bm_zero]; exact Nat.pow_pos (by decide)) (by rw [Bm_zero]; exact Nat.zero_le _)
  have M1 := e_mirror 5 2000 (Nat.le_refl _) (by rw [B5]; exact Nat.lt_of_lt_of_le (show 10 < 3 ^ 5 by decide) (Nat.pow_le_pow_right (by decide) (by decide))) (by
    rw [B5]
    generalize 3 ^ 2000 = T at *
    omega)
  rw [Bm_zero] at M0
  rw [B5] at M1
  generalize 3 ^ 2000 = T at *
  have M0 : f_mirror [.int 0, .int 2000] = ok (.int (((T - 1) / 2 - 0 : Nat) : Int)) := M0
  have M1 : f_mirror [.int 10, .int 2000] = ok (.int (((T - 1) / 2 - 10 : Nat) : Int)) := M1
  have g1 : (T : Int) - 1 = ((T - 1 : Nat) : Int) := by omega
  have g2 : ((T - 1 : Nat) : Int) / 2 = (((T - 1) / 2 : Nat) : Int) := rfl
  have g3 : (((T - 1) / 2 : Nat) : Int) - 10 = (((T - 1) / 2 - 10 : Nat) : Int) := by omega
  rw [Nat.sub_zero] at M0
  have w2 : eqD (.lst [.int (((T - 1) / 2 : Nat) : Int), .int (((T - 1) / 2 - 10 : Nat) : Int)]) (.lst [.int (((T - 1) / 2 : Nat) : Int), .int (((T - 1) / 2 - 10 : Nat) : Int)]) = ok (.bl true) := by
    have := v_eqL [(((T - 1) / 2 : Nat) : Int), (((T - 1) / 2 - 10 : Nat) : Int)] [(((T - 1) / 2 : Nat) : Int), (((T - 1) / 2 - 10 : Nat) : Int)]
    rw [decide_eq_true rfl] at this
    exact this
  have h2 : 0 + 1 + 1 ≤ sizeLine := by
    show 2 ≤ 2 ^ 24
    decide
  have h1 : 0 + 1 ≤ sizeLine := by
    show 1 ≤ 2 ^ 24
    decide
  have lcat : catL (.lst (iD ns)) (.lst [.int 0]) = ok (.lst (iD (ns ++ [0]))) := by
    unfold catL
    dsimp only
    rw [if_pos (show (iD ns).length + [D.int 0].length ≤ sizeLine from c0), ea]
  generalize iN ((List.range 70).map SB) = SL at c2 c3 w1
  simp only [f_law, b_law, dComp, wipeS, restS, keepV, sFor, dCutL, partNo, partAt, lcat, runP, runF, runI, sSeq, sSet, sRet, sRetF, sRetN, sIf, sAsg, sPar, sPar3, sExpr, sNil, sNever, sPub, sOwn, sApp, sPut, dBin, dVar, dC, dTst, dNot, dAnd, dOr, vAnd, vOr, vNot, dIf, dTup, dLst, aNil, aCons, dCall, dCallU, dCallK, dCallI, dIsi, dOwnIx, gNm, gTp, gsNil, gsCons, iR1, iEn, iLst, dListZip, dRep, ownL, ownD, putL, putD, pubS, bd_ok', v_add, v_sub, v_lt, v_le, v_gt, v_ge, v_is0, v_is1, v_eqI, v_neI, v_isII, v_isBI, List.map_cons, List.map_nil, List.cons_append, List.nil_append, List.append_nil, List.length_cons, List.length_nil, List.replicate, List.getElem?_cons_zero, List.getElem?_cons_succ, List.set_cons_zero, List.set_cons_succ, if_true, if_false, Nat.reduceAdd, Nat.reduceSub, Nat.reduceEqDiff, Bool.false_eq_true, Bool.not_true, Bool.not_false, decide_true, decide_false, and_self, hr70, er, hz, c1, c2, c3, w1, ec, eL, hr2, eM, M0, M1, g1, g2, g3, v_div dv2, w2, h1, h2]
end Tf
end
namespace Tf
open PySem PySem.Spec PyProof.Rows L2 Dt
theorem facts {P : Program} {w : World} {K : PySem.W.Frag} {h : Heap} {mg : Str
      → Option Value} {f : Addr} (X : K.In h) (G : h.Ns mainGlobals mg) (hfa : mg ("law" : Str) = some (.ref f)) (c : He.SaysD fa fn K) :
    ∃ fd : FuncData, (∀ (s : Shared) (v : Value), BindsTo s fd ⟨[v], []⟩ [("_law_script", v)]) ∧ ∀ base : Heap, K.In base → base.Ns mainGlobals mg → ∃ k, k ≤ 20 ∧ FnG P w K mg base CX0 k f fd ["_law_script"] (spP K cl0 1 f_law) := by
  have Z := ctx_of X G c
  obtain ⟨fd, F⟩ : ∃ fd, D_law K fd := c.def_ 23 rfl
  have e := hfa.symm.trans (Z.glo 23 rfl)
  cases e
  have b := FunD.bindsA (ps := ["_law_script"]) F fun _ _ _ _ _ _ us hl => match us, hl with | [_], _ => rfl
  exact ⟨fd, fun s v => b s [v] rfl, fun base _ _ => ⟨_, by decide, ok_law Z F⟩⟩
end Tf
open PyProof.Rows PySem PySem.W PySem.Calls
theorem PySem.Challenge.cw_triplefree_k04_whole_gaps_sums_mirrors_holds : PySem.Challenge.rw_triplefree_k04_whole_gaps_sums_mirrors.Holds := by
  w_on; o_law
  refine HandSHeadRun.head_any (r := OpenLaw.row PySem.Challenge.rw_triplefree_k04_whole_gaps_sums_mirrors) (q := view (OpenLaw.row PySem.Challenge.rw_triplefree_k04_whole_gaps_sums_mirrors).prog [29]) (H := Tf.hk) (ob := Tf.ob) (M := 4000) (loose := Tf.loose) (d := HandSHeadRun.topDef (OpenLaw.row PySem.Challenge.rw_triplefree_k04_whole_gaps_sums_mirrors).prog 29) (kwd := []) Tf.ob_eq
    (by kernel_rfl) (fun s => by kernel_rfl) Tf.run (by kernel_rfl) (by kernel_rfl) (by kernel_rfl) (by rfl) (by first | assumption | decide +kernel) (by decide +kernel) ⟨rfl, rfl, rfl, rfl, rfl, by decide +kernel⟩ ?hw ?hc
  case hw => w_witness2
  case hc =>
    refine Dt.walk_G (l := PySem.Challenge.rw_triplefree_k04_whole_gaps_sums_mirrors) (n := 63) (k := 20) (x := "_law_script") rfl (by decide) (by kernel_rfl) ⟨rfl, by decide, by decide⟩ ?F
    intro w mg fa h Y G hmg0
    obtain ⟨K, KX, c⟩ := Y
    have hmg
          : mg ("law" : PySem.Str) = some (.ref fa) := by
      have e : (HandSHeadRun.topDef (OpenLaw.row PySem.Challenge.rw_triplefree_k04_whole_gaps_sums_mirrors).prog 29).name = ("law" : PySem.Str) := by kernel_rfl
      rw [← e]
      exact hmg0
    obtain ⟨fd, hb, hF⟩ := Tf.facts (P := (PySem.Challenge.rw_triplefree_k04_whole_gaps_sums_mirrors).prog) (w := w) KX G hmg c
    exact ⟨K, fd, Tf.cl0, Tf.f_law, KX, hb, Tf.law_true, fun base h1 h2 => by
      obtain ⟨k, hk, F0⟩ := hF base h1 h2
      exact F0.mono hk⟩
