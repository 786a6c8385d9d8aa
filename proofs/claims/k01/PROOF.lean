import PyProof.Rows.All
import Wide.All
import OpenK.AllK
import Wide.FinOn
import HandS.ForExc
import HandS.ForMost
import HandS.Defaults
import HandS.IsInst
import HandS.Wide
import HandS.Flow
import HandS.Style
import HandS.Deep
import HandS.Zip
import HandS.Star
import HandS.SortInts
import HandS.TryMany
import HandS.ExcOwn
import HandS.ExcInit
import HandS.TupAny
import HandS.SetFor
import PyProof.Rows.SeqMore
import HandS.GenList
import KE.KDictZip
import KE.GoesEnum
import PyProof.ReprLen
import PyProof.ReprBulk
import HandS.Property
import HandS.HeadHook3
import KE.KStateDown
import HandS.Ends
import HandS.More
import HandS.Words
import HandS.WordsExc
import HandS.MakeKwOnly
import HandS.Head0
import HandS.Head1
import HandS.Head2
import HandS.HeadEnd
import HandS.HeadHook1
import HandS.HeadHook2
import PySem.Challenge.RW_triplefree_k01_members_and_ranks
set_option Elab.async false
set_option linter.all false
set_option autoImplicit false
set_option maxRecDepth 100000
set_option maxHeartbeats 0
set_option exponentiation.threshold 10000
/-! Data-level layer: values as data, states as lists of slots. -/
namespace Dt
open L2 PySem PySem.Spec PyProof.Rows
/-! ### data -/
inductive D where
  | non
  | bl (b : Bool)
  | int (i : Int)
  | str (x : Str)
  | lst (xs : List D)
  | tup (xs : List D)
  | obj (c : Str) (fs : List D)
  | dic (ks : List Key) (vs : List D)
  | reg (xs : List D)
  | err (c : Str) (fs : List D)
/-- what is known of the classes: address, names of the fields in order -/
abbrev Cl := Str → Option (Addr × List Str)
/-- an exception that was caught -/
def eobj (a C : Addr) (d : Option Addr) : HO := .ext fun h => ∃ (oe : Obj) (vs : Array Value), h.get? a = some oe ∧ oe.cls = .ref C ∧ oe.dict = d ∧ oe.data = .fields vs
mutual
inductive Rp (K : PySem.W.Frag) (cl : Cl) (H : Hp) : V → D → Prop
  | non : Rp K cl H .non .non
  | bl (b : Bool) : Rp K cl H (.bl b) (.bl b)
  | int (i : Int) : Rp K cl H (.int i) (.int i)
  | str (x : Str) : Rp K cl H (.str x) (.str x)
  | lst {a : Addr} {xs : List V} {ds : List D} : SqL K H a xs → RpA K cl H xs ds → Rp K cl H (.ref a) (.lst ds)
  | tup {a : Addr} {xs : List V} {ds : List D} : SqT K H a xs → RpA K cl H xs ds → Rp K cl H (.ref a) (.tup ds)
  | obj {a C dx : Addr} {fvs : List (Str × V)} {c : Str} {names : List Str} {ds : List D} : cl c = some (C, names) → H a = some (.ins C dx fvs) → fvs.map (·.1) = names.take ds.length → RpA K cl H (fvs.map (·.2)) ds → Rp K cl H (.ref a) (.obj c ds)
  | dic {a : Addr} {kvs : List (Key × V)} {ks : List Key} {ds : List D} : Rd H a (.dK kvs) → kvs.map (·.1) = ks → RpA K cl H (kvs.map (·.2)) ds → Rp K cl H (.ref a) (.dic ks ds)
  | reg {a : Addr} {xs : List V} {ds : List D} : SqL K H a xs → RpA K cl H xs ds → Rp K cl H (.ref a) (.reg ds)
  | err {a C dd : Addr} {fvs : List (Str × V)} {c : Str} {names : List Str} {vs : List V} {ds : List D} : cl c = some (C, names) → H a = some (eobj a C (some dd)) → H dd = some (.xd fvs) → names.length = vs.length → (∀ (i : Nat) (f : Str), names[i]? = some f → fvs.lookup f = vs[i]?) → RpA K cl H vs ds → Rp K cl H (.ref a) (.err c ds)
inductive RpA (K : PySem.W.Frag) (cl : Cl) (H : Hp) : List V → List D → Prop
  | nil : RpA K cl H [] []
  | cons {v : V} {vs : List V} {d : D} {ds : List D} : Rp K cl H v d → RpA K cl H vs ds → RpA K cl H (v :: vs) (d :: ds)
end
theorem same_rd {H H' : Hp} (s : Same H H') {a : Addr} {u : HO} (h : Rd H a u) : Rd H' a u := by
  rcases h with h | ⟨o, h⟩
  · exact .inl (s _ _ h)
  · exact .inr ⟨o, s _ _ h⟩
theorem same_sqT {K : PySem.W.Frag} {H H' : Hp} (s : Same H H') {a : Addr} {xs : List V} (h : SqT K H a xs) : SqT K H' a xs := by
  rcases h with h | h
  · exact .inl (same_rd s h)
  · exact .inr h
mutual
theorem Rp.mono {K : PySem.W.Frag} {cl : Cl} {H H' : Hp} (s : Same H H') : ∀ {v : V} {d : D}, Rp K cl H v d → Rp K cl H' v d
  | _, _, .non => .non
  | _, _, .bl b => .bl b
  | _, _, .int i => .int i
  | _, _, .str x => .str x
  | _, _, .lst h r => .lst (s.seq h) (RpA.mono s r)
  | _, _, .tup h r => .tup (same_sqT s h) (RpA.mono s r)
  | _, _, .obj c h n r => .obj c (s _ _ h) n (RpA.mono s r)
  | _, _, .dic h n r => .dic (same_rd s h) n (RpA.mono s r)
  | _, _, .reg h r => .reg (s.seq h) (RpA.mono s r)
  | _, _, .err c h1 h2 l n r => .err c (s _ _ h1) (s _ _ h2) l n (RpA.mono s r)
theorem RpA.mono {K : PySem.W.Frag} {cl : Cl} {H H' : Hp} (s : Same H H') : ∀ {vs : List V} {ds : List D}, RpA K cl H vs ds → RpA K cl H' vs ds
  | _, _, .nil => .nil
  | _, _, .cons a b => .cons (Rp.mono s a) (RpA.mono s b)
end
section
variable {K : PySem.W.Frag} {cl : Cl} {H H' : Hp}
theorem RpA.len : ∀ {vs : List V} {ds : List D}, RpA K cl H vs ds → vs.length = ds.length
  | _, _, .nil => rfl
  | _, _, .cons _ r => congrArg (· + 1) r.len
theorem RpA.get : ∀ {vs : List V} {ds : List D} (i : Nat) {d : D}, RpA K cl H vs ds → ds[i]? = some d → ∃ v, vs[i]? = some v ∧ Rp K cl H v d
  | _, _, _, _, .nil, e => by (simp at e)
  | _, _, 0, _, .cons a _, e => by simp at e; subst e; exact ⟨_, rfl, a⟩
  | _, _, i + 1, _, .cons _ r, e => by
    obtain ⟨v, h1, h2⟩ := RpA.get i r (by simpa using e)
    exact ⟨v, by simpa using h1, h2⟩
theorem RpA.get' : ∀ {vs : List V} {ds : List D} (i : Nat) {v : V}, RpA K cl H vs ds → vs[i]? = some v → ∃ d, ds[i]? = some d ∧ Rp K cl H v d
  | _, _, _, _, .nil, e => by (simp at e)
  | _, _, 0, _, .cons a _, e => by simp at e; subst e; exact ⟨_, rfl, a⟩
  | _, _, i + 1, _, .cons _ r, e => by
    obtain ⟨v, h1, h2⟩ := RpA.get' i r (by simpa using e)
    exact ⟨v, by simpa using h1, h2⟩
theorem RpA.append : ∀ {vs ws : List V} {ds es : List D}, RpA K cl H vs ds → RpA K cl H ws es → RpA K cl H (vs ++ ws) (ds ++ es)
  | _, _, _, _, .nil, h => h
  | _, _, _, _, .cons a r, h => .cons a (r.append h)
theorem RpA.set : ∀ {vs : List V} {ds : List D} (i : Nat) {v : V} {d : D}, RpA K cl H vs ds → Rp K cl H v d → RpA K cl H (vs.set i v) (ds.set i d)
  | _, _, _, _, _, .nil, _ => .nil
  | _, _, 0, _, _, .cons _ r, h => .cons h r
  | _, _, i + 1, _, _, .cons a r, h => .cons a (r.set i h)
theorem RpA.take : ∀ {vs : List V} {ds : List D} (n : Nat), RpA K cl H vs ds → RpA K cl H (vs.take n) (ds.take n)
  | _, _, 0, _ => .nil
  | _, _, _ + 1, .nil => .nil
  | _, _, n + 1, .cons a r => .cons a (r.take n)
theorem RpA.drop : ∀ {vs : List V} {ds : List D} (n : Nat), RpA K cl H vs ds → RpA K cl H (vs.drop n) (ds.drop n)
  | _, _, 0, r => r
  | _, _, _ + 1, .nil => .nil
  | _, _, n + 1, .cons _ r => r.drop n
theorem RpA.rev : ∀ {vs : List V} {ds : List D}, RpA K cl H vs ds → RpA K cl H vs.reverse ds.reverse
  | _, _, .nil => .nil
  | _, _, .cons a r => by
    (rw [List.reverse_cons, List.reverse_cons])
    exact r.rev.append (.cons a .nil)
theorem RpA.two {vs : List V} {d e : D} (h : RpA K cl H vs [d, e]) : ∃ v w, vs = [v, w] ∧ Rp K cl H v d ∧ Rp K cl H w e := by
  cases h with
  | cons a r =>
    cases r with
    | cons b q =>
      cases q
      exact ⟨_, _, rfl, a, b⟩
theorem RpA.one {vs : List V} {d : D} (h : RpA K cl H vs [d]) : ∃ v, vs = [v] ∧ Rp K cl H v d := by
  cases h with
  | cons a r =>
    cases r
    exact ⟨_, rfl, a⟩
theorem RpA.ints : ∀ {vs : List V} {ns : List Int}, RpA K cl H vs (ns.map D.int) → vs = ns.map V.int
  | _, [], h => by cases h; rfl
  | _, n :: ns, h => by
    cases h with
    | cons a r =>
      cases a
      rw [r.ints]
      rfl
theorem RpA.ofInts : ∀ {ns : List Int}, RpA K cl H (ns.map V.int) (ns.map D.int)
  | [] => .nil
  | _ :: _ => .cons (.int _) RpA.ofInts
end
/-- a value that leans on no object -/
def D.scal : D → Bool
  | .non => true
  | .bl _ => true
  | .int _ => true
  | .str _ => true
  | _ => false
theorem Rp.scal {K : PySem.W.Frag} {cl : Cl} {H H' : Hp} {v : V} {d : D} (h : Rp K cl H v d) (s : d.scal = true) : Rp K cl H' v d := by
  cases h with
  | non => exact .non
  | bl b => exact .bl b
  | int i => exact .int i
  | str x => exact .str x
  | lst _ _ => cases s
  | tup _ _ => cases s
  | obj _ _ _ _ => cases s
  | dic _ _ _ => cases s
  | reg _ _ => cases s
  | err _ _ _ _ _ _ => cases s
/-! ### hidden addresses -/
def hide (O : List Addr) (H : Hp) : Hp := fun a => if a ∈ O then none else H a
theorem hide_some {O : List Addr} {H : Hp} {a : Addr} {o : HO} : hide O H a = some o ↔ a ∉ O ∧ H a = some o := by
  unfold hide
  by_cases h : a ∈ O
  · simp [h]
  · simp [h]
theorem hide_le {O : List Addr} {H : Hp} : Same (hide O H) H := fun _ _ h => (hide_some.mp h).2
theorem hide_sub {O O' : List Addr} {H : Hp} (h : ∀ a ∈ O', a ∈ O) : Same (hide O H) (hide O' H) := fun _ _ e =>
  let ⟨n, e⟩ := hide_some.mp e
  hide_some.mpr ⟨fun z => n (h _ z), e⟩
/-! ### states -/
/-- a slot: no value known; a value; a list or dict of the def's own; the argument that is changed for the caller -/
inductive Sl where
  | un
  | val (d : D)
  | own (d : D)
  | io (d : D)
abbrev S := List Sl
/-! ### results -/
/-- an exception: the class's name, the fields -/
structure Ex where
  c : Str
  fs : List D
inductive Rs (α : Type) where
  | ok (a : α)
  | ex (e : Ex) (s : S)
abbrev M (α : Type) := Option (Rs α)
def ok {α : Type} (a : α) : M α := some (.ok a)
def exc {α : Type} (e : Ex) (s : S) : M α := some (.ex e s)
def bd {α β : Type} (m : M α) (f : α → M β) : M β :=
  match m with
  | none => none
  | some (.ex e s) => some (.ex e s)
  | some (.ok a) => f a
theorem bd_ok {α β : Type} (a : α) (f : α → M β) : bd (ok a) f = f a := rfl
theorem bd_none {α β : Type} (f : α → M β) : bd none f = none := rfl
/-- what a call gives: an exception is in the caller's air -/
def bdC {α β : Type} (m : M α) (s : S) (f : α → M β) : M β :=
  match m with
  | none => none
  | some (.ex e _) => some (.ex e s)
  | some (.ok a) => f a
def OwnAt (K : PySem.W.Frag) (cl : Cl) (h0 : Hp) (O : List Addr) (H : Hp) (a : Addr) : D → Prop
  | .lst ds => ∃ xs, H a = some (.lst xs) ∧ RpA K cl (hide O H) xs ds
  | .dic ks ds => ∃ kvs, H a = some (.dK kvs) ∧ kvs.map (·.1) = ks ∧ RpA K cl (hide O H) (kvs.map (·.2)) ds
  | .obj c ds => ∃ C names dx fvs, cl c = some (C, names) ∧ H a = some (.ins C dx fvs) ∧ fvs.map (·.1) = names.take ds.length ∧ RpA K cl (hide O H) (fvs.map (·.2)) ds
  | .reg ds => ∃ as : List Addr, H a = some (.lst (as.map V.ref)) ∧ as.Nodup ∧ (∀ b ∈ as, h0 b = none ∧ ∃ kvs, hide O H b = some (.dK kvs)) ∧ RpA K cl (hide O H) (as.map V.ref) ds
  | _ => False
theorem OwnAt.some {K : PySem.W.Frag} {cl : Cl} {h0 : Hp} {O : List Addr} {H : Hp} {a : Addr} {d : D} (h : OwnAt K cl h0 O H a d) : H a ≠ none := by
  cases d with
  | lst ds => obtain ⟨xs, e, _⟩ := h; rw [e]; simp
  | dic ks ds => obtain ⟨xs, e, _⟩ := h; rw [e]; simp
  | obj c ds => obtain ⟨_, _, _, _, _, e, _⟩ := h; rw [e]; simp
  | reg ds => obtain ⟨_, e, _⟩ := h; rw [e]; simp
  | _ => exact h.elim
theorem OwnAt.move {K : PySem.W.Frag} {cl : Cl} {h0 : Hp} {O O' : List Addr} {H H' : Hp} {a : Addr} {d : D} (h : OwnAt K cl h0 O H a d) (e : H' a = H a) (s : Same (hide O H) (hide O' H')) : OwnAt K cl h0 O' H' a d := by
  cases d with
  | lst ds => obtain ⟨xs, e1, r⟩ := h; exact ⟨xs, e.trans e1, r.mono s⟩
  | dic ks ds => obtain ⟨xs, e1, n, r⟩ := h; exact ⟨xs, e.trans e1, n, r.mono s⟩
  | obj c ds => obtain ⟨C, ns, dx, fvs, k, e1, n, r⟩ := h; exact ⟨C, ns, dx, fvs, k, e.trans e1, n, r.mono s⟩
  | reg ds => obtain ⟨as, e1, n, f, r⟩ := h; exact ⟨as, e.trans e1, n, fun b hb => ⟨(f b hb).1, (f b hb).2.imp fun _ z => s _ _ z⟩, r.mono s⟩
  | _ => exact h.elim
/-- as a value, if it is seen -/
theorem OwnAt.rp {K : PySem.W.Frag} {cl : Cl} {h0 : Hp} {O O' : List Addr} {H : Hp} {a : Addr} {d : D} (h : OwnAt K cl h0 O H a d) (n : a ∉ O') (s : Same (hide O H) (hide O' H)) : Rp K cl (hide O' H) (.ref a) d := by
  cases d with
  | lst ds => obtain ⟨xs, e1, r⟩ := h; exact .lst (.inl (.inl (hide_some.mpr ⟨n, e1⟩))) (r.mono s)
  | dic ks ds => obtain ⟨xs, e1, q, r⟩ := h; exact .dic (.inl (hide_some.mpr ⟨n, e1⟩)) q (r.mono s)
  | obj c ds => obtain ⟨C, ns, dx, fvs, k, e1, q, r⟩ := h; exact .obj k (hide_some.mpr ⟨n, e1⟩) q (r.mono s)
  | reg ds => obtain ⟨as, e1, q, f, r⟩ := h; exact .reg (.inl (.inl (hide_some.mpr ⟨n, e1⟩))) (r.mono s)
  | _ => exact h.elim
/-- new for the one, new for the other -/
theorem OwnAt.old {K : PySem.W.Frag} {cl : Cl} {h0 h1 : Hp} {O : List Addr} {H : Hp} {a : Addr} {d : D} (h : OwnAt K cl h0 O H a d) (s : ∀ b, h0 b = none → h1 b = none) : OwnAt K cl h1 O H a d := by
  cases d with
  | reg ds => obtain ⟨as, e1, q, f, r⟩ := h; exact ⟨as, e1, q, fun b hb => ⟨s b (f b hb).1, (f b hb).2⟩, r⟩
  | _ => exact h
def D.isReg : D → Bool
  | .reg _ => true
  | _ => false
theorem OwnAt.any {K : PySem.W.Frag} {cl : Cl} {h0 h1 : Hp} {O : List Addr} {H : Hp} {a : Addr} {d : D} (h : OwnAt K cl h0 O H a d) (s : d.isReg = false) : OwnAt K cl h1 O H a d := by
  cases d with
  | reg ds => cases s
  | _ => exact h
/-- where the def stands: hidden addresses, the addresses that may be changed, the one that is the argument's, the heap at the entry -/
structure Wf where
  O0 : List Addr
  I : List Addr
  a0 : Addr
  H0 : Hp
structure StOK (K : PySem.W.Frag) (cl : Cl) (w : Wf) (L : List Addr) (H : Hp) (σ : L2.St) (sd : S) : Prop where
  val : ∀ (i : Nat) (d : D), sd[i]? = some (.val d) → ∃ v, σ[i]? = some (some v) ∧ Rp K cl (hide (L ++ w.O0) H) v d
  own : ∀ (i : Nat) (d : D), sd[i]? = some (.own d) → ∃ a, σ[i]? = some (some (.ref a)) ∧ a ∈ L ∧ OwnAt K cl w.H0 (L ++ w.O0) H a d
  io : ∀ (i : Nat) (d : D), sd[i]? = some (.io d) → σ[i]? = some (some (.ref w.a0)) ∧ w.a0 ∈ w.I ∧ OwnAt K cl w.H0 (L ++ w.O0) H w.a0 d
  inj : ∀ (i j : Nat) (d e : D) (a : Addr), sd[i]? = some (.own d) → sd[j]? = some (.own e) → σ[i]? = some (some (.ref a)) → σ[j]? = some (some (.ref a)) → i = j
  ioj : ∀ (i j : Nat) (d e : D), sd[i]? = some (.io d) → sd[j]? = some (.io e) → i = j
  len : σ.length = sd.length
/-- the state's meaning -/
structure Wl (K : PySem.W.Frag) (cl : Cl) (w : Wf) (L : List Addr) (sd : S) (σ : L2.St) (H : Hp) : Prop where
  keep : ∀ b o, b ∉ w.I → w.H0 b = some o → H b = some o
  fresh : ∀ a ∈ L, w.H0 a = none
  alive : ∀ a ∈ L ++ w.O0, H a ≠ none
  disj : ∀ a ∈ L, a ∉ w.O0
  sub : ∀ a ∈ w.I, a ∈ w.O0
  st : StOK K cl w L H σ sd
/-- from (L, H) on to (L', H') -/
structure Step (w : Wf) (L : List Addr) (H : Hp) (L' : List Addr) (H' : Hp) : Prop where
  keep : ∀ b o, b ∉ L → b ∉ w.I → H b = some o → H' b = some o
  alv : ∀ b, H b ≠ none → H' b ≠ none
  new : ∀ a ∈ L', a ∈ L ∨ H a = none
theorem Step.refl {w : Wf} {L : List Addr} {H : Hp} : Step w L H L H := ⟨fun _ _ _ _ e => e, fun _ e => e, fun _ h => .inl h⟩
theorem Step.trans {w : Wf} {L L1 L2 : List Addr} {H H1 H2 : Hp} (s : Step w L H L1 H1) (t : Step w L1 H1 L2 H2) : Step w L H L2 H2 := by
  refine ⟨fun b o h1 h2 e => t.keep b o (fun z => ?_) h2 (s.keep b o h1 h2 e), fun b e => t.alv b (s.alv b e), fun a ha => ?_⟩
  · rcases s.new b z with y | y
    · exact h1 y
    · rw [e] at y; cases y
  · rcases t.new a ha with y | y
    · exact s.new a y
    · refine .inr ?_
      cases q : H a with
      | none => rfl
      | some o => exact absurd y (s.alv a (by rw [q]; simp))
theorem Step.of_same {w : Wf} {L : List Addr} {H H' : Hp} (s : Same H H') : Step w L H L H' :=
  ⟨fun b o _ _ e => s b o e, fun b e => by
    cases q : H b with
    | none => exact absurd q e
    | some o => rw [s b o q]; simp, fun _ h => .inl h⟩
/-- what is seen stays -/
theorem Step.seen {w : Wf} {L L' : List Addr} {H H' : Hp} (s : Step w L H L' H') (hI : ∀ a ∈ w.I, a ∈ w.O0) : Same (hide (L ++ w.O0) H) (hide (L' ++ w.O0) H') := fun b o e => by
  obtain ⟨n, e⟩ := hide_some.mp e
  have n1 : b ∉ L := fun z => n (List.mem_append_left _ z)
  have n2 : b ∉ w.O0 := fun z => n (List.mem_append_right _ z)
  refine hide_some.mpr ⟨fun z => ?_, s.keep b o n1 (fun z => n2 (hI b z)) e⟩
  rcases List.mem_append.mp z with z | z
  · rcases s.new b z with y | y
    · exact n1 y
    · rw [e] at y; cases y
  · exact n2 z
section
variable {K : PySem.W.Frag} {cl : Cl} {w : Wf} {L : List Addr} {sd : S} {σ : L2.St} {H H' : Hp}
theorem Wl.io_ne (W : Wl K cl w L sd σ H) {a : Addr} (ha : a ∈ L) : a ∉ w.I := fun z => W.disj a ha (W.sub a z)
/-- the state stands where all objects stay -/
theorem Wl.ext (W : Wl K cl w L sd σ H) (s : Same H H') : Wl K cl w L sd σ H' := by
  have sh : Same (hide (L ++ w.O0) H) (hide (L ++ w.O0) H') := fun b o e =>
    let ⟨n, e⟩ := hide_some.mp e
    hide_some.mpr ⟨n, s b o e⟩
  have own : ∀ {a d}, OwnAt K cl w.H0 (L ++ w.O0) H a d → OwnAt K cl w.H0 (L ++ w.O0) H' a d := fun {a d} h => by
    refine h.move ?_ sh
    cases q : H a with
    | none => exact absurd q h.some
    | some o => exact s a o q
  refine ⟨fun b o n e => s b o (W.keep b o n e), W.fresh, fun a ha => ?_, W.disj, W.sub, ⟨fun i d e => ?_, fun i d e => ?_, fun i d e => ?_, W.st.inj, W.st.ioj, W.st.len⟩⟩
  · have := W.alive a ha
    cases q : H a with
    | none => exact absurd q this
    | some o => rw [s a o q]; simp
  · obtain ⟨v, h1, h2⟩ := W.st.val i d e
    exact ⟨v, h1, h2.mono sh⟩
  · obtain ⟨a, h1, h2, h3⟩ := W.st.own i d e
    exact ⟨a, h1, h2, own h3⟩
  · obtain ⟨h1, h2, h3⟩ := W.st.io i d e
    exact ⟨h1, h2, own h3⟩
/-- a new address -/
theorem Wl.new_ne (W : Wl K cl w L sd σ H) {p : Addr} (n : H p = none) : p ∉ L ++ w.O0 := fun z => W.alive p z n
theorem same_upd {H : Hp} {p : Addr} {o : HO} (n : H p = none) : Same H (upd H p o) := fun b u e => by
  rw [upd_ne (ne_of_none e n)]
  exact e
/-- a new list of the def's own -/
theorem Wl.made (W : Wl K cl w L sd σ H) {p : Addr} (s : Same H H') (n : H p = none) (e : H' p ≠ none) : Wl K cl w (p :: L) sd σ H' := by
  have W' := W.ext s
  have np := W.new_ne n
  have sh : Same (hide (L ++ w.O0) H) (hide (p :: L ++ w.O0) H') := fun b o z =>
    let ⟨n1, z⟩ := hide_some.mp z
    hide_some.mpr ⟨fun y => by
      rcases List.mem_cons.mp y with y | y
      · rw [y, n] at z; cases z
      · exact n1 y, s b o z⟩
  have own : ∀ {a d}, OwnAt K cl w.H0 (L ++ w.O0) H a d → OwnAt K cl w.H0 (p :: L ++ w.O0) H' a d := fun {a d} h => by
    refine h.move ?_ sh
    cases q : H a with
    | none => exact absurd q h.some
    | some o => exact s a o q
  refine ⟨W'.keep, fun a ha => ?_, fun a ha => ?_, fun a ha => ?_, W.sub, ⟨fun i d e => ?_, fun i d e => ?_, fun i d e => ?_, W.st.inj, W.st.ioj, W.st.len⟩⟩
  · (rcases List.mem_cons.mp ha with rfl | ha)
    · cases q : w.H0 a with
      | none => rfl
      | some o =>
        by_cases hI : a ∈ w.I
        · exact absurd (List.mem_append_right _ (W.sub a hI)) np
        · have := W.keep a o hI q
          rw [n] at this; cases this
    · exact W.fresh a ha
  · (rcases List.mem_cons.mp ha with rfl | ha)
    · exact e
    · exact W'.alive a ha
  · (rcases List.mem_cons.mp ha with rfl | ha)
    · exact fun z => np (List.mem_append_right _ z)
    · exact W.disj a ha
  · obtain ⟨v, h1, h2⟩ := W.st.val i d e
    exact ⟨v, h1, h2.mono sh⟩
  · obtain ⟨a, h1, h2, h3⟩ := W.st.own i d e
    exact ⟨a, h1, List.mem_cons_of_mem _ h2, own h3⟩
  · obtain ⟨h1, h2, h3⟩ := W.st.io i d e
    exact ⟨h1, h2, own h3⟩
/-- what is new now was new at the entry -/
theorem Wl.old (W : Wl K cl w L sd σ H) {b : Addr} (h : H b = none) : w.H0 b = none := by
  cases q : w.H0 b with
  | none => rfl
  | some o =>
    by_cases hI : b ∈ w.I
    · exact absurd h (W.alive b (List.mem_append_right _ (W.sub b hI)))
    · rw [W.keep b o hI q] at h
      cases h
/-- an own address is let go -/
theorem Wl.seen (W : Wl K cl w L sd σ H) : Same (hide (L ++ w.O0) H) (hide w.O0 H) := hide_sub fun _ h => List.mem_append_right _ h
end
/-! ### exceptions -/
/-- an exception's object: class, the address of its fields -/
def ExAt (K : PySem.W.Frag) (cl : Cl) (O : List Addr) (H : Hp) (e : Ex) (cls : Value) (d : Option Addr) : Prop := ∃ C names, cl e.c = some (C, names) ∧ cls = .ref C ∧ names.length = e.fs.length ∧
  ((names = [] ∧ d = none) ∨ ∃ dd fvs, names ≠ [] ∧ d = some dd ∧ hide O H dd = some (.xd fvs) ∧ ∀ (i : Nat) (f : Str) (x : D), names[i]? = some f → e.fs[i]? = some x → ∃ v, fvs.lookup f = some v ∧ Rp K cl (hide O H) v x)
theorem ExAt.mono {K : PySem.W.Frag} {cl : Cl} {O O' : List Addr} {H H' : Hp} {e : Ex} {cls : Value} {d : Option Addr} (h : ExAt K cl O H e cls d) (s : Same (hide O H) (hide O' H')) : ExAt K cl O' H' e cls d := by
  obtain ⟨C, names, h1, h2, h3, h4⟩ := h
  refine ⟨C, names, h1, h2, h3, ?_⟩
  rcases h4 with h4 | ⟨dd, fvs, q1, q2, q3, q4⟩
  · exact .inl h4
  · refine .inr ⟨dd, fvs, q1, q2, s _ _ q3, fun i f x e1 e2 => ?_⟩
    obtain ⟨v, r1, r2⟩ := q4 i f x e1 e2
    exact ⟨v, r1, r2.mono s⟩
/-- what is wished of an exception -/
def Wish (K : PySem.W.Frag) (cl : Cl) (wx : WX) (w : Wf) (e : Ex) (s : S) : Prop := ∀ L σ H cls d, Wl K cl w L s σ H → ExAt K cl (L ++ w.O0) H e cls d → wx cls d σ H
end Dt
namespace Dt
open L2 PySem PySem.Spec PyProof.Rows
/-! ### readings by functions of the data -/
section
variable (K : PySem.W.Frag) (cl : Cl) (wx : WX)
def PostE (w : Wf) (L : List Addr) (σ : L2.St) (H : Hp) (Q : VK) : M (D × S) → Prop
  | some (.ok (r, s')) => ∀ v H', Step w L H L H' → Wl K cl w L s' σ H' → Rp K cl (hide (L ++ w.O0) H') v r → Q v H'
  | some (.ex e s') => Wish K cl wx w e s'
  | none => False
def PostT (w : Wf) (L : List Addr) (σ : L2.St) (H : Hp) (Q : Bool → Hp → Prop) : M (Bool × S) → Prop
  | some (.ok (r, s')) => ∀ H', Step w L H L H' → Wl K cl w L s' σ H' → Q r H'
  | some (.ex e s') => Wish K cl wx w e s'
  | none => False
def PostA (w : Wf) (L : List Addr) (σ : L2.St) (H : Hp) (Q : List V → Hp → Prop) : M (List D × S) → Prop
  | some (.ok (r, s')) => ∀ v H', Step w L H L H' → Wl K cl w L s' σ H' → RpA K cl (hide (L ++ w.O0) H') v r → Q v H'
  | some (.ex e s') => Wish K cl wx w e s'
  | none => False
/-- a new list: its items -/
def PostF (w : Wf) (L : List Addr) (σ : L2.St) (H : Hp) (Q : VK) : M (D × S) → Prop
  | some (.ok (r, s')) => ∀ p H', Step w L H (p :: L) H' → p ∉ L ++ w.O0 → Wl K cl w L s' σ H' → Wl K cl w (p :: L) s' σ H' → OwnAt K cl H (p :: L ++ w.O0) H' p r → Q (.ref p) H'
  | some (.ex e s') => Wish K cl wx w e s'
  | none => False
def TEof (f : S → M (D × S)) : TE := fun σ H Q => ∃ w L sd, Wl K cl w L sd σ H ∧ PostE K cl wx w L σ H Q (f sd)
def TTof (f : S → M (Bool × S)) : TT := fun σ H Q => ∃ w L sd, Wl K cl w L sd σ H ∧ PostT K cl wx w L σ H Q (f sd)
def TAof (f : S → M (List D × S)) : TA := fun σ H Q => ∃ w L sd, Wl K cl w L sd σ H ∧ PostA K cl wx w L σ H Q (f sd)
def TFof (f : S → M (D × S)) : TE := fun σ H Q => ∃ w L sd, Wl K cl w L sd σ H ∧ PostF K cl wx w L σ H Q (f sd)
/-- a value's end: it may have made objects -/
def Fin1 (O : List Addr) (H : Hp) (Q : VK) : M D → Prop
  | some (.ok r) => ∀ v H', Same H H' → Rp K cl (hide O H') v r → Q v H'
  | some (.ex _ _) => True
  | none => False
end
section
variable {K : PySem.W.Frag} {cl : Cl} {wx : WX} {w : Wf} {L : List Addr} {σ : L2.St} {H H1 H2 : Hp} {Q : VK} {s s1 s2 : S}
/-- the end of a failure -/
structure Bot (K : PySem.W.Frag) (cl : Cl) (wx : WX) (w : Wf) {β : Type} (P : M β → Prop) : Prop where
  no : P none → False
  ex : ∀ e s, P (some (.ex e s)) → Wish K cl wx w e s
theorem botE : Bot K cl wx w (PostE K cl wx w L σ H Q) := ⟨fun h => h, fun _ _ h => h⟩
theorem botT {Q : Bool → Hp → Prop} : Bot K cl wx w (PostT K cl wx w L σ H Q) := ⟨fun h => h, fun _ _ h => h⟩
theorem botA {Q : List V → Hp → Prop} : Bot K cl wx w (PostA K cl wx w L σ H Q) := ⟨fun h => h, fun _ _ h => h⟩
theorem botF : Bot K cl wx w (PostF K cl wx w L σ H Q) := ⟨fun h => h, fun _ _ h => h⟩
theorem PostE.bd {m : M (D × S)} {β : Type} {P : M β → Prop} (hb : Bot K cl wx w P) {f : D × S → M β} (h : P (bd m f)) {C : VK}
    (k : ∀ r s1, P (f (r, s1)) → ∀ v H1, Step w L H L H1 → Wl K cl w L s1 σ H1 → Rp K cl (hide (L ++ w.O0) H1) v r → C v H1) : PostE K cl wx w L σ H C m := by
  match m, h with
  | none, h => exact (hb.no h).elim
  | some (.ex e s'), h => exact hb.ex e s' h
  | some (.ok (r, s1)), h => exact fun v H1 a b c => k r s1 h v H1 a b c
theorem PostT.bd {m : M (Bool × S)} {β : Type} {P : M β → Prop} (hb : Bot K cl wx w P) {f : Bool × S → M β} (h : P (bd m f)) {C : Bool → Hp → Prop}
    (k : ∀ r s1, P (f (r, s1)) → ∀ H1, Step w L H L H1 → Wl K cl w L s1 σ H1 → C r H1) : PostT K cl wx w L σ H C m := by
  match m, h with
  | none, h => exact (hb.no h).elim
  | some (.ex e s'), h => exact hb.ex e s' h
  | some (.ok (r, s1)), h => exact fun H1 a b => k r s1 h H1 a b
theorem PostA.bd {m : M (List D × S)} {β : Type} {P : M β → Prop} (hb : Bot K cl wx w P) {f : List D × S → M β} (h : P (bd m f)) {C : List V → Hp → Prop}
    (k : ∀ r s1, P (f (r, s1)) → ∀ v H1, Step w L H L H1 → Wl K cl w L s1 σ H1 → RpA K cl (hide (L ++ w.O0) H1) v r → C v H1) : PostA K cl wx w L σ H C m := by
  match m, h with
  | none, h => exact (hb.no h).elim
  | some (.ex e s'), h => exact hb.ex e s' h
  | some (.ok (r, s1)), h => exact fun v H1 a b c => k r s1 h v H1 a b c
theorem PostF.bd {m : M (D × S)} {β : Type} {P : M β → Prop} (hb : Bot K cl wx w P) {f : D × S → M β} (h : P (bd m f)) {C : VK}
    (k : ∀ r s1, P (f (r, s1)) → ∀ p H1, Step w L H (p :: L) H1 → p ∉ L ++ w.O0 → Wl K cl w L s1 σ H1 → Wl K cl w (p :: L) s1 σ H1 → OwnAt K cl H (p :: L ++ w.O0) H1 p r → C (.ref p) H1) : PostF K cl wx w L σ H C m := by
  match m, h with
  | none, h => exact (hb.no h).elim
  | some (.ex e s'), h => exact hb.ex e s' h
  | some (.ok (r, s1)), h => exact fun v H1 a b c d e => k r s1 h v H1 a b c d e
/-- a pure end -/
theorem PostE.fin {m : M D} (h : PostE K cl wx w L σ H Q (Dt.bd m fun r => ok (r, s2))) (st : Step w L H L H2) (W : Wl K cl w L s2 σ H2) : Fin1 K cl (L ++ w.O0) H2 Q m := by
  match m, h with
  | none, h => exact h.elim
  | some (.ex e s'), h => exact True.intro
  | some (.ok r), h => exact fun v H3 sm rp => h v H3 (st.trans (.of_same sm)) (W.ext sm) rp
theorem Step.sn (W : Wl K cl w L s σ H) (st : Step w L H1 L H2) : Same (hide (L ++ w.O0) H1) (hide (L ++ w.O0) H2) := st.seen W.sub
theorem iE {X : Cx} {e : Expr} {t t' : TE} (h : PE X e t) (k : ∀ σ H Q, t' σ H Q → t σ H Q) : PE X e t' := ⟨fun pins s σ H Q I q => h.run pins s σ H Q I (k σ H Q q)⟩
theorem iT {X : Cx} {e : Expr} {t t' : TT} (h : PT X e t) (k : ∀ σ H Q, t' σ H Q → t σ H Q) : PT X e t' := ⟨fun pins s σ H Q I q => h.run pins s σ H Q I (k σ H Q q)⟩
theorem iW {X : Cx} {e : Expr} {t t' : TT} (h : PW X e t) (k : ∀ σ H Q, t' σ H Q → t σ H Q) : PW X e t' := ⟨fun wh pins s σ H Q I q => h.run wh pins s σ H Q I (k σ H Q q)⟩
theorem iA {X : Cx} {e : List Expr} {t t' : TA} (h : PA X e t) (k : ∀ σ H Q, t' σ H Q → t σ H Q) : PA X e t' := ⟨fun pos pins s σ H Q I q => h.run pos pins s σ H Q I (k σ H Q q)⟩
theorem iK {X : Cx} {e : List Keyword} {t t' : TA} (h : PK X e t) (k : ∀ σ H Q, t' σ H Q → t σ H Q) : PK X e t' := ⟨fun pos pins s σ H Q I q => h.run pos pins s σ H Q I (k σ H Q q)⟩
theorem iS {X : Cx} {e : Stmt} {t t' : TS} (h : PS X e t) (k : ∀ D σ H, t' D σ H → t D σ H) : PS X e t' := ⟨fun pins s σ H D I q => h.run pins s σ H D I (k D σ H q)⟩
theorem iSs {X : Cx} {e : List Stmt} {t t' : TS} (h : PSs X e t) (k : ∀ D σ H, t' D σ H → t D σ H) : PSs X e t' := ⟨fun pins s σ H D I q => h.run pins s σ H D I (k D σ H q)⟩
end
/-! ### names, constants -/
def dVar (i : Nat) : S → M (D × S) := fun s => match s[i]? with
  | some (.val d) => ok (d, s)
  | _ => none
def dC (d : D) : S → M (D × S) := fun s => ok (d, s)
section
variable {X : Cx} {K : PySem.W.Frag} {cl : Cl} {wx : WX} {pos : Pos}
theorem d_var (i : Nat) {x : Str} (hN : X.N[i]? = some x := by rfl) (hv : Vis X.env.scope x := by first | exact Or.inl rfl | exact Or.inr (Or.inl rfl) | exact Or.inr (Or.inr rfl))
    (hd : (x == ("__debug__" : Str)) = false := by decide) (hcd : (x == ("__classdict__" : Str)) = false := by decide) : PE X (.Name x pos) (TEof K cl wx (dVar i)) := by
  refine iE (pe_var hN hv hd hcd) ?_
  rintro σ H Q ⟨w, L, sd, W, h⟩
  unfold dVar at h
  split at h
  · next d e =>
    obtain ⟨v, h1, h2⟩ := W.st.val i d e
    exact ⟨v, h1, h v H .refl W h2⟩
  · exact h.elim
theorem dC_of {e : Expr} {v : V} {d : D} (h : PE X e (tC v)) (r : ∀ H : Hp, Rp K cl H v d) : PE X e (TEof K cl wx (dC d)) := by
  refine iE h ?_
  rintro σ H Q ⟨w, L, sd, W, h⟩
  exact h v H .refl W (r _)
theorem d_int {i j} : PE X (.Constant (.int i) j pos) (TEof K cl wx (dC (.int i))) := dC_of pe_int fun _ => .int i
theorem d_bl {b j} : PE X (.Constant (.bool b) j pos) (TEof K cl wx (dC (.bl b))) := dC_of pe_bl fun _ => .bl b
theorem d_non {j} : PE X (.Constant .none j pos) (TEof K cl wx (dC .non)) := dC_of pe_non fun _ => .non
theorem d_str {x j} : PE X (.Constant (.str x) j pos) (TEof K cl wx (dC (.str x))) := dC_of pe_str fun _ => .str x
end
/-! ### operators -/
abbrev Op2 := D → D → M D
def dBin (g : Op2) (fa fb : S → M (D × S)) : S → M (D × S) := fun s => bd (fa s) fun p => bd (fb p.2) fun q => bd (g p.1 q.1) fun r => ok (r, q.2)
/-- g tells what r does -/
def OpD (K : PySem.W.Frag) (cl : Cl) (r : R2) (g : Op2) : Prop := ∀ (O : List Addr) (H : Hp) (x y : V) (d e : D) (Q : VK), (∀ a ∈ O, H a ≠ none) → Rp K cl (hide O H) x d → Rp K cl (hide O H) y e → Fin1 K cl O H Q (g d e) → r x y H Q
structure OpK (X : Cx) (K : PySem.W.Frag) (cl : Cl) (f : Value → Value → Sem Value) (g : Op2) : Prop where
  it : ∃ r, OpR X f r ∧ OpD K cl r g
section
variable {X : Cx} {K : PySem.W.Frag} {cl : Cl} {wx : WX} {pos : Pos} {a b : Expr} {fa fb : S → M (D × S)} {g : Op2}
theorem bin_read {r : R2} (hd : OpD K cl r g) : ∀ σ H Q, TEof K cl wx (dBin g fa fb) σ H Q → tOp r (TEof K cl wx fa) (TEof K cl wx fb) σ H Q := by
  rintro σ H Q ⟨w, L, sd, W, h⟩
  refine ⟨w, L, sd, W, PostE.bd botE h fun x s1 h v H1 st1 W1 rx => ?_⟩
  refine ⟨w, L, s1, W1, PostE.bd botE h fun y s2 h u H2 st2 W2 ry => ?_⟩
  exact hd (L ++ w.O0) H2 v u x y Q W2.alive (rx.mono (st2.sn W2)) ry (h.fin (st1.trans st2) W2)
theorem d_op {op : Operator} (ho : OpK X K cl (binaryOp op) g) (ha : PE X a (TEof K cl wx fa)) (hb : PE X b (TEof K cl wx fb)) : PE X (.BinOp a op b pos) (TEof K cl wx (dBin g fa fb)) := by
  obtain ⟨r, h1, h2⟩ := ho.it
  exact iE (pe_op h1 ha hb) (bin_read h2)
theorem d_cmp {op : CmpOp} (ho : OpK X K cl (compareOp op) g) (ha : PE X a (TEof K cl wx fa)) (hb : PE X b (TEof K cl wx fb)) (hm : behindInMarks op b = false := by first | exact nomark _ | rfl) : PE X (.Compare a [op] [b] pos) (TEof K cl wx (dBin g fa fb)) := by
  obtain ⟨r, h1, h2⟩ := ho.it
  exact iE (pe_cmpR h1 ha hb hm) (bin_read h2)
end
end Dt
namespace Dt
open L2 PySem PySem.Spec PyProof.Rows
/-! ### operators of ints -/
def mulOk (i j : Int) : Prop := (-(2 ^ 64) < i ∧ i < 2 ^ 64) ∨ (-(2 ^ 64) < j ∧ j < 2 ^ 64) ∨ i.natAbs.log2 + j.natAbs.log2 < 1000000
instance (i j : Int) : Decidable (mulOk i j) := by unfold mulOk; infer_instance
def divOk (j : Int) : Prop := 0 < j ∧ j.natAbs.log2 < 9000
instance (j : Int) : Decidable (divOk j) := by unfold divOk; infer_instance
def powOk (i j : Int) : Prop := 0 ≤ j ∧ j ≤ 1000000 ∧ i.natAbs < 2 ^ 64
instance (i j : Int) : Decidable (powOk i j) := by unfold powOk; infer_instance
def addI : Op2 := fun d e => match d, e with
  | .int i, .int j => ok (.int (i + j))
  | _, _ => none
def subI : Op2 := fun d e => match d, e with
  | .int i, .int j => ok (.int (i - j))
  | _, _ => none
def mulI : Op2 := fun d e => match d, e with
  | .int i, .int j => if mulOk i j then ok (.int (i * j)) else none
  | _, _ => none
def divI : Op2 := fun d e => match d, e with
  | .int i, .int j => if divOk j then ok (.int (i / j)) else none
  | _, _ => none
def modI : Op2 := fun d e => match d, e with
  | .int i, .int j => if 0 < j then ok (.int (i % j)) else none
  | _, _ => none
def powI : Op2 := fun d e => match d, e with
  | .int i, .int j => if powOk i j then ok (.int (i ^ j.toNat)) else none
  | _, _ => none
def ltI : Op2 := fun d e => match d, e with
  | .int i, .int j => ok (.bl (decide (i < j)))
  | _, _ => none
def leI : Op2 := fun d e => match d, e with
  | .int i, .int j => ok (.bl (decide (i ≤ j)))
  | _, _ => none
def gtI : Op2 := fun d e => match d, e with
  | .int i, .int j => ok (.bl (decide (j < i)))
  | _, _ => none
def geI : Op2 := fun d e => match d, e with
  | .int i, .int j => ok (.bl (decide (j ≤ i)))
  | _, _ => none
section
variable {X : Cx} {K : PySem.W.Frag} {cl : Cl} {wx : WX}
theorem Fin1.now {O : List Addr} {H : Hp} {Q : VK} {d : D} {v : V} (h : Fin1 K cl O H Q (ok d)) (r : Rp K cl (hide O H) v d) : Q v H := h v H (Same.refl H) r
/-- two ints, a condition -/
theorem opk_int {f : Value → Value → Sem Value} {C : Int → Int → Prop} {g : Int → Int → V} {g' : Int → Int → D} {op : Op2} (ho : OpR X f (rI C g)) (hr : ∀ i j (H : Hp), Rp K cl H (g i j) (g' i j))
    (h1 : ∀ d e, (∃ i j, d = .int i ∧ e = .int j ∧ ((C i j ∧ op d e = ok (g' i j)) ∨ op d e = none)) ∨ op d e = none) : OpK X K cl f op := by
  refine ⟨_, ho, fun O H x y d e Q _ rx ry h => ?_⟩
  rcases h1 d e with ⟨i, j, rfl, rfl, ⟨hc, e1⟩ | e1⟩ | e1
  · rw [e1] at h
    cases rx
    cases ry
    exact ⟨i, j, rfl, rfl, hc, h.now (hr i j _)⟩
  · rw [e1] at h
    exact h.elim
  · rw [e1] at h
    exact h.elim
theorem opk_int0 {f : Value → Value → Sem Value} {g : Int → Int → V} {g' : Int → Int → D} {op : Op2} (ho : OpR X f (rI0 g)) (hr : ∀ i j (H : Hp), Rp K cl H (g i j) (g' i j))
    (h1 : ∀ d e, (∃ i j, d = .int i ∧ e = .int j ∧ op d e = ok (g' i j)) ∨ op d e = none) : OpK X K cl f op := by
  refine ⟨_, ho, fun O H x y d e Q _ rx ry h => ?_⟩
  rcases h1 d e with ⟨i, j, rfl, rfl, e1⟩ | e1
  · rw [e1] at h
    cases rx
    cases ry
    exact ⟨i, j, rfl, rfl, h.now (hr i j _)⟩
  · rw [e1] at h
    exact h.elim
theorem two_ints {op : Op2} {g' : Int → Int → D} (h : ∀ i j, op (.int i) (.int j) = ok (g' i j)) (h2 : ∀ d e, (∀ i j, ¬ (d = .int i ∧ e = .int j)) → op d e = none) : ∀ d e, (∃ i j, d = .int i ∧ e = .int j ∧ op d e = ok (g' i j)) ∨ op d e = none := fun d e => by
  by_cases q : ∃ i j, d = .int i ∧ e = .int j
  · obtain ⟨i, j, rfl, rfl⟩ := q
    exact .inl ⟨i, j, rfl, rfl, h i j⟩
  · exact .inr (h2 d e fun i j z => q ⟨i, j, z⟩)
theorem two_intsC {op : Op2} {C : Int → Int → Prop} {g' : Int → Int → D} (h : ∀ i j, (C i j ∧ op (.int i) (.int j) = ok (g' i j)) ∨ op (.int i) (.int j) = none) (h2 : ∀ d e, (∀ i j, ¬ (d = .int i ∧ e = .int j)) → op d e = none) :
    ∀ d e, (∃ i j, d = .int i ∧ e = .int j ∧ ((C i j ∧ op d e = ok (g' i j)) ∨ op d e = none)) ∨ op d e = none := fun d e => by
  by_cases q : ∃ i j, d = .int i ∧ e = .int j
  · obtain ⟨i, j, rfl, rfl⟩ := q
    exact .inl ⟨i, j, rfl, rfl, h i j⟩
  · exact .inr (h2 d e fun i j z => q ⟨i, j, z⟩)
theorem k_add : OpK X K cl (binaryOp .Add) addI := opk_int0 op_add (fun _ _ _ => .int _) (two_ints (fun _ _ => rfl) fun d e h => by
  cases d <;> cases e <;> first | rfl | exact absurd ⟨rfl, rfl⟩ (h _ _))
theorem k_sub : OpK X K cl (binaryOp .Sub) subI := opk_int0 op_sub (fun _ _ _ => .int _) (two_ints (fun _ _ => rfl) fun d e h => by
  cases d <;> cases e <;> first | rfl | exact absurd ⟨rfl, rfl⟩ (h _ _))
theorem k_lt : OpK X K cl (compareOp .Lt) ltI := opk_int0 op_lt (fun _ _ _ => .bl _) (two_ints (fun _ _ => rfl) fun d e h => by
  cases d <;> cases e <;> first | rfl | exact absurd ⟨rfl, rfl⟩ (h _ _))
theorem k_le : OpK X K cl (compareOp .LtE) leI := opk_int0 op_le (fun _ _ _ => .bl _) (two_ints (fun _ _ => rfl) fun d e h => by
  cases d <;> cases e <;> first | rfl | exact absurd ⟨rfl, rfl⟩ (h _ _))
theorem k_gt : OpK X K cl (compareOp .Gt) gtI := opk_int0 op_gt (fun _ _ _ => .bl _) (two_ints (fun _ _ => rfl) fun d e h => by
  cases d <;> cases e <;> first | rfl | exact absurd ⟨rfl, rfl⟩ (h _ _))
theorem k_ge : OpK X K cl (compareOp .GtE) geI := opk_int0 op_ge (fun _ _ _ => .bl _) (two_ints (fun _ _ => rfl) fun d e h => by
  cases d <;> cases e <;> first | rfl | exact absurd ⟨rfl, rfl⟩ (h _ _))
theorem mulOk.ok {i j : Int} (h : mulOk i j) : IntMulOk i j := by
  rcases h with h | h | h
  · exact CMul.ok (.inl h)
  · exact CMul.ok (.inr h)
  · exact CMulW.ok h
theorem o_mul : OpR X (binaryOp .Mult) (rI mulOk fun i j => .int (i * j)) := opI fun _ _ _ _ _ _ _ hc q => mul_int q hc.ok
theorem o_pow : OpR X (binaryOp .Pow) (rI powOk fun i j => .int (i ^ j.toNat)) := op_pow
theorem o_div : OpR X (binaryOp .FloorDiv) (rI (fun _ j => divOk j) fun i j => .int (i / j)) := op_fdivW
theorem k_mul : OpK X K cl (binaryOp .Mult) mulI := opk_int o_mul (fun _ _ _ => .int _) (two_intsC (fun i j => by
    by_cases h : mulOk i j
    · exact .inl ⟨h, by unfold mulI; simp [h]⟩
    · exact .inr (by unfold mulI; simp [h])) fun d e h => by
  cases d <;> cases e <;> first | rfl | exact absurd ⟨rfl, rfl⟩ (h _ _))
theorem k_div : OpK X K cl (binaryOp .FloorDiv) divI := opk_int o_div (fun _ _ _ => .int _) (two_intsC (fun i j => by
    by_cases h : divOk j
    · exact .inl ⟨h, by unfold divI; simp [h]⟩
    · exact .inr (by unfold divI; simp [h])) fun d e h => by
  cases d <;> cases e <;> first | rfl | exact absurd ⟨rfl, rfl⟩ (h _ _))
theorem k_mod : OpK X K cl (binaryOp .Mod) modI := opk_int op_mod (fun _ _ _ => .int _) (two_intsC (fun i j => by
    by_cases h : 0 < j
    · exact .inl ⟨h, by unfold modI; simp [h]⟩
    · exact .inr (by unfold modI; simp [h])) fun d e h => by
  cases d <;> cases e <;> first | rfl | exact absurd ⟨rfl, rfl⟩ (h _ _))
theorem k_pow : OpK X K cl (binaryOp .Pow) powI := opk_int o_pow (fun _ _ _ => .int _) (two_intsC (fun i j => by
    by_cases h : powOk i j
    · exact .inl ⟨h, by unfold powI; simp [h]⟩
    · exact .inr (by unfold powI; simp [h])) fun d e h => by
  cases d <;> cases e <;> first | rfl | exact absurd ⟨rfl, rfl⟩ (h _ _))
end
/-! ### equality: flat values, None, data -/
mutual
/-- plain data as the model's -/
def D.py : D → PyData
  | .non => .none
  | .bl b => .bool b
  | .int i => .int i
  | .str x => .str x
  | .lst xs => .list (D.pys xs)
  | .tup xs => .tuple (D.pys xs)
  | .obj _ _ => .none
  | .dic _ _ => .none
  | .reg _ => .none
  | .err _ _ => .none
def D.pys : List D → List PyData
  | [] => []
  | x :: xs => D.py x :: D.pys xs
end
mutual
/-- no objects, no dicts within -/
def D.plain : D → Bool
  | .non => true
  | .bl _ => true
  | .int _ => true
  | .str _ => true
  | .lst xs => D.plains xs
  | .tup xs => D.plains xs
  | .obj _ _ => false
  | .dic _ _ => false
  | .reg _ => false
  | .err _ _ => false
def D.plains : List D → Bool
  | [] => true
  | x :: xs => D.plain x && D.plains xs
end
mutual
theorem rp_dp {K : PySem.W.Frag} {cl : Cl} {H : Hp} : ∀ (d : D) (v : V), Rp K cl H v d → d.plain = true → Dp K H v d.py
  | .non, _, h, _ => by cases h; rw [D.py]; exact .non
  | .bl b, _, h, _ => by cases h; rw [D.py]; exact .bl b
  | .int i, _, h, _ => by cases h; rw [D.py]; exact .int i
  | .str x, _, h, _ => by cases h; rw [D.py]; exact .str x
  | .lst ds, _, h, p => by
    cases h with
    | lst h r =>
      rw [D.plain] at p
      rw [D.py]
      exact .lst h (rps_dp ds _ r p)
  | .tup ds, _, h, p => by
    cases h with
    | tup h r =>
      rw [D.plain] at p
      rw [D.py]
      exact .tup h (rps_dp ds _ r p)
  | .obj _ _, _, _, p => by rw [D.plain] at p; cases p
  | .dic _ _, _, _, p => by rw [D.plain] at p; cases p
  | .reg _, _, _, p => by rw [D.plain] at p; cases p
  | .err _ _, _, _, p => by rw [D.plain] at p; cases p
theorem rps_dp {K : PySem.W.Frag} {cl : Cl} {H : Hp} : ∀ (ds : List D) (vs : List V), RpA K cl H vs ds → D.plains ds = true → DpAll K H vs (D.pys ds)
  | [], _, h, _ => by cases h; rw [D.pys]; exact .nil
  | d :: ds, _, h, p => by
    cases h with
    | cons a r =>
      rw [D.plains] at p
      have p' := Bool.and_eq_true_iff.mp p
      rw [D.pys]
      exact .cons (rp_dp d _ a p'.1) (rps_dp ds _ r p'.2)
end
mutual
theorem dp_mono {K : PySem.W.Frag} {H H' : Hp} (s : Same H H') : ∀ {v : V} {d : PyData}, Dp K H v d → Dp K H' v d
  | _, _, .non => .non
  | _, _, .bl b => .bl b
  | _, _, .int i => .int i
  | _, _, .str x => .str x
  | _, _, .lst h r => .lst (s.seq h) (dps_mono s r)
  | _, _, .tup h r => .tup (same_sqT s h) (dps_mono s r)
theorem dps_mono {K : PySem.W.Frag} {H H' : Hp} (s : Same H H') : ∀ {vs : List V} {ds : List PyData}, DpAll K H vs ds → DpAll K H' vs ds
  | _, _, .nil => .nil
  | _, _, .cons a r => .cons (dp_mono s a) (dps_mono s r)
end
theorem Rp.dp {K : PySem.W.Frag} {cl : Cl} {O : List Addr} {H : Hp} {v : V} {d : D} (h : Rp K cl (hide O H) v d) (p : d.plain = true) : Dp K H v d.py := dp_mono hide_le (rp_dp d v h p)
/-- == of plain data -/
def eqD : Op2 := fun d e => if d.plain && e.plain && SeqAt.shaped d.py && SeqAt.shaped e.py then ok (.bl (PyData.eqv d.py e.py)) else none
def neD : Op2 := fun d e => if d.plain && e.plain && SeqAt.shaped d.py && SeqAt.shaped e.py then ok (.bl (!PyData.eqv d.py e.py)) else none
def isNon : Op2 := fun d e => match d, e with
  | .non, .non => ok (.bl true)
  | _, .non => ok (.bl false)
  | _, _ => none
def notNon : Op2 := fun d e => match d, e with
  | .non, .non => ok (.bl false)
  | _, .non => ok (.bl true)
  | _, _ => none
/-- x in xs, plain data -/
def inD : Op2 := fun d e => match e with
  | .lst xs => if d.plain && D.plains xs && SeqAt.shaped d.py && SeqAt.shaped (.list (D.pys xs)) then ok (.bl ((D.pys xs).any fun z => PyData.eqv z d.py)) else none
  | _ => none
def ninD : Op2 := fun d e => match e with
  | .lst xs => if d.plain && D.plains xs && SeqAt.shaped d.py && SeqAt.shaped (.list (D.pys xs)) then ok (.bl (!(D.pys xs).any fun z => PyData.eqv z d.py)) else none
  | _ => none
section
variable {X : Cx} {cl : Cl} {wx : WX}
theorem k_eqD (hu : X.A.units + 64 < cLine) : OpK X X.K cl (compareOp .Eq) eqD := by
  refine ⟨_, op_eqD hu, fun O H x y d e Q _ rx ry h => ?_⟩
  unfold eqD at h
  split at h
  · next c =>
    simp only [Bool.and_eq_true] at c
    obtain ⟨⟨⟨c1, c2⟩, c3⟩, c4⟩ := c
    exact ⟨d.py, e.py, rx.dp c1, ry.dp c2, c3, c4, h.now (.bl _)⟩
  · exact h.elim
theorem k_neD (hu : X.A.units + 64 < cLine) : OpK X X.K cl (compareOp .NotEq) neD := by
  refine ⟨_, op_neD hu, fun O H x y d e Q _ rx ry h => ?_⟩
  unfold neD at h
  split at h
  · next c =>
    simp only [Bool.and_eq_true] at c
    obtain ⟨⟨⟨c1, c2⟩, c3⟩, c4⟩ := c
    exact ⟨d.py, e.py, rx.dp c1, ry.dp c2, c3, c4, h.now (.bl _)⟩
  · exact h.elim
theorem k_inD (hu : X.A.units + 65 < cLine) : OpK X X.K cl (compareOp .In) inD := by
  refine ⟨_, op_inD hu, fun O H x y d e Q _ rx ry h => ?_⟩
  unfold inD at h
  split at h
  · next xs =>
    split at h
    · next c =>
      simp only [Bool.and_eq_true] at c
      obtain ⟨⟨⟨c1, c2⟩, c3⟩, c4⟩ := c
      exact ⟨d.py, D.pys xs, rx.dp c1, by have q := ry.dp (by rw [D.plain]; exact c2); rw [D.py] at q; exact q, c3, c4, h.now (.bl _)⟩
    · exact h.elim
  · exact h.elim
theorem k_ninD (hu : X.A.units + 65 < cLine) : OpK X X.K cl (compareOp .NotIn) ninD := by
  refine ⟨_, op_notInD hu, fun O H x y d e Q _ rx ry h => ?_⟩
  unfold ninD at h
  split at h
  · next xs =>
    split at h
    · next c =>
      simp only [Bool.and_eq_true] at c
      obtain ⟨⟨⟨c1, c2⟩, c3⟩, c4⟩ := c
      exact ⟨d.py, D.pys xs, rx.dp c1, by have q := ry.dp (by rw [D.plain]; exact c2); rw [D.py] at q; exact q, c3, c4, h.now (.bl _)⟩
    · exact h.elim
  · exact h.elim
theorem k_is {K : PySem.W.Frag} : OpK X K cl (compareOp .Is) isNon := by
  refine ⟨_, op_isN, fun O H x y d e Q _ rx ry h => ?_⟩
  cases e with
  | non =>
    cases ry
    refine ⟨rfl, ?_⟩
    cases rx <;> exact h.now (.bl _)
  | _ => cases d <;> exact h.elim
theorem k_isnot {K : PySem.W.Frag} : OpK X K cl (compareOp .IsNot) notNon := by
  refine ⟨_, op_notN, fun O H x y d e Q _ rx ry h => ?_⟩
  cases e with
  | non =>
    cases ry
    refine ⟨rfl, ?_⟩
    cases rx <;> exact h.now (.bl _)
  | _ => cases d <;> exact h.elim
end
end Dt
namespace Dt
open L2 PySem PySem.Spec PyProof.Rows
/-! ### tests -/
/-- a bool value as a test -/
def dTst (f : S → M (D × S)) : S → M (Bool × S) := fun s => bd (f s) fun p => match p.1 with
  | .bl b => ok (b, p.2)
  | _ => none
/-- truth of any value -/
def truD : D → M Bool
  | .non => ok false
  | .bl b => ok b
  | .int i => ok (i != 0)
  | .str x => if x.length ≤ sizeLine then ok ((x.length : Int) != 0) else none
  | .lst xs => ok (!xs.isEmpty)
  | .tup xs => ok (!xs.isEmpty)
  | _ => none
theorem truD_ex {d : D} {e : Ex} {s : S} (h : truD d = some (.ex e s)) : False := by
  cases d with
  | str x =>
    have h : (if x.length ≤ sizeLine then ok ((x.length : Int) != 0) else none) = some (.ex e s) := h
    by_cases c : x.length ≤ sizeLine
    · rw [if_pos c] at h
      cases h
    · rw [if_neg c] at h
      cases h
  | _ => cases h
def dTru (f : S → M (D × S)) : S → M (Bool × S) := fun s => bd (f s) fun p => bd (truD p.1) fun b => ok (b, p.2)
def dAnd (fa fb : S → M (Bool × S)) : S → M (Bool × S) := fun s => bd (fa s) fun p => if p.1 = true then fb p.2 else ok (false, p.2)
def dOr (fa fb : S → M (Bool × S)) : S → M (Bool × S) := fun s => bd (fa s) fun p => if p.1 = true then ok (true, p.2) else fb p.2
def dNot (fa : S → M (Bool × S)) : S → M (Bool × S) := fun s => bd (fa s) fun p => ok (!p.1, p.2)
/-- and, or, not as values (bools) -/
def vAnd (fa fb : S → M (D × S)) : S → M (D × S) := fun s => bd (fa s) fun p => match p.1 with
  | .bl b => if b = true then fb p.2 else ok (.bl false, p.2)
  | _ => none
def vOr (fa fb : S → M (D × S)) : S → M (D × S) := fun s => bd (fa s) fun p => match p.1 with
  | .bl b => if b = true then ok (.bl true, p.2) else fb p.2
  | _ => none
def vNot (fa : S → M (D × S)) : S → M (D × S) := fun s => bd (fa s) fun p => match p.1 with
  | .bl b => ok (.bl (!b), p.2)
  | _ => none
def dIf (ft : S → M (Bool × S)) (fa fb : S → M (D × S)) : S → M (D × S) := fun s => bd (ft s) fun p => if p.1 = true then fa p.2 else fb p.2
section
variable {X : Cx} {K : PySem.W.Frag} {cl : Cl} {wx : WX} {pos : Pos} {a b c e : Expr} {rest : List Expr} {fa fb : S → M (D × S)} {ta tb tc : S → M (Bool × S)}
theorem tst_read : ∀ σ H Q, TTof K cl wx (dTst fa) σ H Q → tB (TEof K cl wx fa) σ H Q := by
  rintro σ H Q ⟨w, L, sd, W, h⟩
  refine ⟨w, L, sd, W, PostE.bd botT h fun r s1 h v H1 st1 W1 rr => ?_⟩
  cases r with
  | bl b =>
    cases rr
    exact ⟨b, rfl, h H1 st1 W1⟩
  | _ => exact h.elim
/-- a test by its value -/
theorem d_tst (h : PE X e (TEof K cl wx fa)) (he : ∀ whole, isTrue e X.env whole = (do let v ← whole; standAt e.pos; holding [v] (truthy v)) := by intro _; rfl) : PT X e (TTof K cl wx (dTst fa)) := iT (pt_val h he) tst_read
theorem d_tcmp {op : CmpOp} {g : Op2} (ho : OpK X K cl (compareOp op) g) (ha : PE X a (TEof K cl wx fa)) (hb : PE X b (TEof K cl wx fb)) (hm : behindInMarks op b = false := by first | exact nomark _ | rfl) : PT X (.Compare a [op] [b] pos) (TTof K cl wx (dTst (dBin g fa fb))) := by
  obtain ⟨r, h1, h2⟩ := ho.it
  refine iT (pt_cmpR h1 ha hb hm) fun σ H Q h => ?_
  obtain ⟨w, L, sd, W, h⟩ := h
  refine bin_read h2 σ H _ ⟨w, L, sd, W, PostE.bd botT h fun r s1 h v H1 st1 W1 rr => ?_⟩
  cases r with
  | bl b =>
    cases rr
    exact ⟨b, rfl, h H1 st1 W1⟩
  | _ => exact h.elim
theorem truV_of {H : Hp} {O : List Addr} {v : V} {d : D} {b : Bool} (r : Rp K cl (hide O H) v d) (h : truD d = ok b) : TruV K v H b := by
  cases r with
  | non => cases h; rfl
  | bl b => cases h; rfl
  | int i => cases h; rfl
  | str x =>
    have h : (if x.length ≤ sizeLine then ok ((x.length : Int) != 0) else none) = ok b := h
    by_cases c : x.length ≤ sizeLine
    · rw [if_pos c] at h; cases h; exact ⟨c, rfl⟩
    · rw [if_neg c] at h; cases h
  | lst s r =>
    cases h
    refine .inl ⟨_, hide_le.seq s, ?_⟩
    cases r <;> rfl
  | tup s r =>
    cases h
    refine .inr (.inl ⟨_, same_sqT hide_le s, ?_⟩)
    cases r <;> rfl
  | obj _ _ _ _ => cases h
  | dic _ _ _ => cases h
  | reg _ _ => cases h
  | err _ _ _ _ _ _ => cases h
theorem d_tru (h : PE X e (TEof X.K cl wx fa)) (he : ∀ whole, isTrue e X.env whole = (do let v ← whole; standAt e.pos; holding [v] (truthy v)) := by intro _; rfl) : PT X e (TTof X.K cl wx (dTru fa)) := by
  refine iT (pt_truth h he) ?_
  rintro σ H Q ⟨w, L, sd, W, h⟩
  refine ⟨w, L, sd, W, PostE.bd botT h fun r s1 h v H1 st1 W1 rr => ?_⟩
  generalize e1 : truD r = m at h
  match m, h with
  | none, h => exact h.elim
  | some (.ex _ _), h => exact (truD_ex e1).elim
  | some (.ok b), h => exact ⟨b, truV_of rr e1, h H1 st1 W1⟩
theorem and_read : ∀ σ H Q, TTof K cl wx (dAnd ta tb) σ H Q → tAnd (TTof K cl wx ta) (TTof K cl wx tb) σ H Q := by
  rintro σ H Q ⟨w, L, sd, W, h⟩
  refine ⟨w, L, sd, W, PostT.bd botT h fun r s1 h H1 st1 W1 => ?_⟩
  cases r with
  | true =>
    refine iteT ⟨w, L, s1, W1, ?_⟩
    match (tb s1 : M (Bool × S)), h with
    | none, h => exact h.elim
    | some (.ex _ _), h => exact h
    | some (.ok (b, s2)), h => exact fun H2 st2 W2 => h H2 (st1.trans st2) W2
  | false => exact iteF (h H1 st1 W1)
theorem or_read : ∀ σ H Q, TTof K cl wx (dOr ta tb) σ H Q → tOr (TTof K cl wx ta) (TTof K cl wx tb) σ H Q := by
  rintro σ H Q ⟨w, L, sd, W, h⟩
  refine ⟨w, L, sd, W, PostT.bd botT h fun r s1 h H1 st1 W1 => ?_⟩
  cases r with
  | false =>
    refine iteF ⟨w, L, s1, W1, ?_⟩
    match (tb s1 : M (Bool × S)), h with
    | none, h => exact h.elim
    | some (.ex _ _), h => exact h
    | some (.ok (b, s2)), h => exact fun H2 st2 W2 => h H2 (st1.trans st2) W2
  | true => exact iteT (h H1 st1 W1)
theorem d_and1 (ha : PT X a (TTof K cl wx ta)) : PW X (.BoolOp .And [a] pos) (TTof K cl wx ta) := pw_and1 ha
theorem d_or1 (ha : PT X a (TTof K cl wx ta)) : PW X (.BoolOp .Or [a] pos) (TTof K cl wx ta) := pw_or1 ha
theorem d_and (ha : PT X a (TTof K cl wx ta)) (hb : PW X (.BoolOp .And (b :: rest) pos) (TTof K cl wx tb)) : PW X (.BoolOp .And (a :: b :: rest) pos) (TTof K cl wx (dAnd ta tb)) := iW (pw_and ha hb) and_read
theorem d_or (ha : PT X a (TTof K cl wx ta)) (hb : PW X (.BoolOp .Or (b :: rest) pos) (TTof K cl wx tb)) : PW X (.BoolOp .Or (a :: b :: rest) pos) (TTof K cl wx (dOr ta tb)) := iW (pw_or ha hb) or_read
theorem d_not (ha : PT X a (TTof K cl wx ta)) : PT X (.UnaryOp .Not a pos) (TTof K cl wx (dNot ta)) := by
  refine iT (pt_not ha) ?_
  rintro σ H Q ⟨w, L, sd, W, h⟩
  exact ⟨w, L, sd, W, PostT.bd botT h fun r s1 h H1 st1 W1 => h H1 st1 W1⟩
theorem PostE.on {w : Wf} {L : List Addr} {σ : L2.St} {H H1 : Hp} {Q : VK} {m : M (D × S)} (h : PostE K cl wx w L σ H Q m) (st1 : Step w L H L H1) : PostE K cl wx w L σ H1 Q m := by
  match m, h with
  | none, h => exact h.elim
  | some (.ex _ _), h => exact h
  | some (.ok (b, s2)), h => exact fun v H2 st2 W2 r => h v H2 (st1.trans st2) W2 r
theorem d_vone {op : BoolOp} (ha : PE X a (TEof K cl wx fa)) : PE X (.BoolOp op [a] pos) (TEof K cl wx fa) := pe_one ha
theorem d_vand (ha : PE X a (TEof K cl wx fa)) (hb : PE X (.BoolOp .And (b :: rest) pos) (TEof K cl wx fb)) : PE X (.BoolOp .And (a :: b :: rest) pos) (TEof K cl wx (vAnd fa fb)) := by
  refine iE (pe_and ha hb) ?_
  rintro σ H Q ⟨w, L, sd, W, h⟩
  refine ⟨w, L, sd, W, PostE.bd botE h fun r s1 h v H1 st1 W1 rr => ?_⟩
  cases r with
  | bl b =>
    cases rr
    refine ⟨b, rfl, ?_⟩
    cases b with
    | true => exact iteT ⟨w, L, s1, W1, PostE.on h st1⟩
    | false => exact iteF (h _ H1 st1 W1 (.bl _))
  | _ => exact h.elim
theorem d_vor (ha : PE X a (TEof K cl wx fa)) (hb : PE X (.BoolOp .Or (b :: rest) pos) (TEof K cl wx fb)) : PE X (.BoolOp .Or (a :: b :: rest) pos) (TEof K cl wx (vOr fa fb)) := by
  refine iE (pe_or ha hb) ?_
  rintro σ H Q ⟨w, L, sd, W, h⟩
  refine ⟨w, L, sd, W, PostE.bd botE h fun r s1 h v H1 st1 W1 rr => ?_⟩
  cases r with
  | bl b =>
    cases rr
    refine ⟨b, rfl, ?_⟩
    cases b with
    | false => exact iteF ⟨w, L, s1, W1, PostE.on h st1⟩
    | true => exact iteT (h _ H1 st1 W1 (.bl _))
  | _ => exact h.elim
theorem d_vnot (ha : PE X a (TEof K cl wx fa)) : PE X (.UnaryOp .Not a pos) (TEof K cl wx (vNot fa)) := by
  refine iE (pe_not ha) ?_
  rintro σ H Q ⟨w, L, sd, W, h⟩
  refine ⟨w, L, sd, W, PostE.bd botE h fun r s1 h v H1 st1 W1 rr => ?_⟩
  cases r with
  | bl b =>
    cases rr
    exact ⟨b, rfl, h _ H1 st1 W1 (.bl _)⟩
  | _ => exact h.elim
theorem d_ifx (hc : PT X c (TTof K cl wx tc)) (ha : PE X a (TEof K cl wx fa)) (hb : PE X b (TEof K cl wx fb)) : PE X (.IfExp c a b pos) (TEof K cl wx (dIf tc fa fb)) := by
  refine iE (pe_ifExp hc ha hb) ?_
  rintro σ H Q ⟨w, L, sd, W, h⟩
  refine ⟨w, L, sd, W, PostT.bd botE h fun r s1 h H1 st1 W1 => ?_⟩
  cases r with
  | true => exact iteT ⟨w, L, s1, W1, PostE.on h st1⟩
  | false => exact iteF ⟨w, L, s1, W1, PostE.on h st1⟩
end
/-! ### arguments, displays -/
def aNil : S → M (List D × S) := fun s => ok ([], s)
def aCons (fa : S → M (D × S)) (fr : S → M (List D × S)) : S → M (List D × S) := fun s => bd (fa s) fun p => bd (fr p.2) fun q => ok (p.1 :: q.1, q.2)
def dTup (fr : S → M (List D × S)) : S → M (D × S) := fun s => bd (fr s) fun p => if p.1.length ≤ sizeLine then ok (.tup p.1, p.2) else none
def dLst (fr : S → M (List D × S)) : S → M (D × S) := fun s => bd (fr s) fun p => if p.1.length ≤ sizeLine then ok (.lst p.1, p.2) else none
section
variable {X : Cx} {K : PySem.W.Frag} {cl : Cl} {wx : WX} {pos : Pos} {e : Expr} {es : List Expr} {fa : S → M (D × S)} {fr : S → M (List D × S)}
theorem nil_read : ∀ σ H Q, TAof K cl wx aNil σ H Q → tNil σ H Q := by
  rintro σ H Q ⟨w, L, sd, W, h⟩
  exact h [] H .refl W .nil
theorem cons_read : ∀ σ H Q, TAof K cl wx (aCons fa fr) σ H Q → tCons (TEof K cl wx fa) (TAof K cl wx fr) σ H Q := by
  rintro σ H Q ⟨w, L, sd, W, h⟩
  refine ⟨w, L, sd, W, PostE.bd botA h fun r s1 h v H1 st1 W1 rr => ?_⟩
  refine ⟨w, L, s1, W1, PostA.bd botA h fun rs s2 h vs H2 st2 W2 rrs => ?_⟩
  exact h (v :: vs) H2 (st1.trans st2) W2 (.cons (rr.mono (st2.sn W2)) rrs)
theorem d_nil : PA X [] (TAof K cl wx aNil) := iA pa_nil nil_read
theorem d_cons (ha : PE X e (TEof K cl wx fa)) (hr : PA X es (TAof K cl wx fr)) (hs : starEach (e :: es) X.env = (false, eval e X.env) :: starEach es X.env := by rfl) : PA X (e :: es) (TAof K cl wx (aCons fa fr)) := iA (pa_cons ha hr hs) cons_read
theorem d_tup {k : Nat} (ha : PA X es (TAof K cl wx fr)) : PE X (.Tuple es k pos) (TEof K cl wx (dTup fr)) := by
  refine iE (pe_tup ha) ?_
  rintro σ H Q ⟨w, L, sd, W, h⟩
  refine ⟨w, L, sd, W, PostA.bd botE h fun rs s1 h vs H1 st1 W1 rrs => ?_⟩
  split at h
  · next c =>
    refine ⟨by rw [rrs.len]; exact c, fun p np => ?_⟩
    have sm := same_upd (o := .tup vs) np
    exact h (.ref p) _ (st1.trans (.of_same sm)) (W1.ext sm) (.tup (.inl (.inl (hide_some.mpr ⟨W1.new_ne np, upd_same⟩))) (rrs.mono ((Step.of_same sm).sn W1)))
  · exact h.elim
/-- a new list as one's own -/
theorem f_lst (ha : PA X es (TAof K cl wx fr)) : PE X (.List es pos) (TFof K cl wx (dLst fr)) := by
  refine iE (pe_lst ha) ?_
  rintro σ H Q ⟨w, L, sd, W, h⟩
  refine ⟨w, L, sd, W, PostA.bd botF h fun rs s1 h vs H1 st1 W1 rrs => ?_⟩
  split at h
  · next c =>
    refine ⟨by rw [rrs.len]; exact c, fun p np => ?_⟩
    have sm := same_upd (o := .lst vs) np
    have st2 : Step w L H1 (p :: L) (upd H1 p (.lst vs)) := ⟨(Step.of_same (w := w) (L := L) sm).keep, (Step.of_same (w := w) (L := L) sm).alv, fun a ha => by
      (rcases List.mem_cons.mp ha with rfl | ha)
      · exact .inr np
      · exact .inl ha⟩
    have W2 := W1.made sm np (by rw [upd_same]; simp)
    exact h p _ (st1.trans st2) (W1.new_ne np) (W1.ext sm) W2 ⟨vs, upd_same, rrs.mono (st2.seen W1.sub)⟩
  · exact h.elim
/-- a new list as a value -/
theorem d_of (h : PE X e (TFof K cl wx fa)) : PE X e (TEof K cl wx fa) := by
  refine iE h ?_
  rintro σ H Q ⟨w, L, sd, W, h⟩
  refine ⟨w, L, sd, W, ?_⟩
  match (fa sd : M (D × S)), h with
  | none, h => exact h.elim
  | some (.ex _ _), h => exact h
  | some (.ok (r, s1)), h =>
    intro p H1 st np W1 W2 ho
    refine h (.ref p) H1 ⟨st.keep, st.alv, fun _ z => .inl z⟩ W1 (ho.rp np ?_)
    exact hide_sub fun _ z => List.mem_cons_of_mem _ z
theorem d_lst (ha : PA X es (TAof K cl wx fr)) : PE X (.List es pos) (TEof K cl wx (dLst fr)) := d_of (f_lst ha)
end
end Dt
namespace Dt
open L2 PySem PySem.Spec PyProof.Rows
/-! ### calls of what is built in -/
abbrev OpN := List D → M D
def dCall (g : OpN) (fr : S → M (List D × S)) : S → M (D × S) := fun s => bd (fr s) fun p => bd (g p.1) fun r => ok (r, p.2)
def CallD (K : PySem.W.Frag) (cl : Cl) (r : List V → Hp → VK → Prop) (g : OpN) : Prop := ∀ (O : List Addr) (H : Hp) (xs : List V) (ds : List D) (Q : VK), (∀ a ∈ O, H a ≠ none) → RpA K cl (hide O H) xs ds → Fin1 K cl O H Q (g ds) → r xs H Q
structure CallK (X : Cx) (K : PySem.W.Frag) (cl : Cl) (f : Value) (g : OpN) : Prop where
  it : ∃ r, CallR X f r ∧ CallD K cl r g
section
variable {X : Cx} {K : PySem.W.Frag} {cl : Cl} {wx : WX} {pos p : Pos} {e : Expr} {es : List Expr} {fr : S → M (List D × S)} {g : OpN} {x : Str} {id T : String}
theorem call_read {r : List V → Hp → VK → Prop} (hd : CallD K cl r g) : ∀ σ H Q, TEof K cl wx (dCall g fr) σ H Q → tCB r (TAof K cl wx fr) σ H Q := by
  rintro σ H Q ⟨w, L, sd, W, h⟩
  refine ⟨w, L, sd, W, PostA.bd botE h fun rs s1 h vs H1 st1 W1 rrs => ?_⟩
  exact hd (L ++ w.O0) H1 vs rs Q W1.alive rrs (h.fin st1 W1)
theorem d_callB (hc : CallK X K cl (.builtin id) g) (hm : X.mg x = none) (hv : bootBuiltins x = some (.builtin id)) (ha : PA X (e :: es) (TAof K cl wx fr)) (hg : Gl X x := by rfl) (hn : x ≠ "__name__" := by decide) (hdb : (x == ("__debug__" : Str)) = false := by decide)
    (he : starEach (e :: es) X.env = (false, eval e X.env) :: starEach es X.env := by rfl) (hpl : (backTo pos (starEach es X.env)).any (·.1) = false := by rfl) : PE X (.Call (.Name x p) (e :: es) [] pos) (TEof K cl wx (dCall g fr)) := by
  obtain ⟨r, h1, h2⟩ := hc.it
  exact iE (pe_callB h1 hg hm hv ha hn hdb he hpl) (call_read h2)
theorem d_callT (hc : CallK X K cl (.type T) g) (hm : X.mg x = none) (hv : bootBuiltins x = some (.type T)) (ha : PA X (e :: es) (TAof K cl wx fr)) (hg : Gl X x := by rfl) (hn : x ≠ "__name__" := by decide) (hdb : (x == ("__debug__" : Str)) = false := by decide)
    (he : starEach (e :: es) X.env = (false, eval e X.env) :: starEach es X.env := by rfl) (hpl : (backTo pos (starEach es X.env)).any (·.1) = false := by rfl) : PE X (.Call (.Name x p) (e :: es) [] pos) (TEof K cl wx (dCall g fr)) := by
  obtain ⟨r, h1, h2⟩ := hc.it
  exact iE (pe_callTy h1 hg hm hv ha hn hdb he hpl) (call_read h2)
end
def absN : OpN := fun ds => match ds with
  | [.int i] => ok (.int (if i < 0 then -i else i))
  | _ => none
def max2N : OpN := fun ds => match ds with
  | [.int i, .int j] => ok (.int (if j > i then j else i))
  | _ => none
def min2N : OpN := fun ds => match ds with
  | [.int i, .int j] => ok (.int (if j < i then j else i))
  | _ => none
def intN : OpN := fun ds => match ds with
  | [.int i] => ok (.int i)
  | [.bl b] => ok (.int (if b then 1 else 0))
  | _ => none
def strN : OpN := fun ds => match ds with
  | [.int i] => if i.natAbs.log2 < 1920 then ok (.str (toString i)) else none
  | _ => none
def lenN : OpN := fun ds => match ds with
  | [.lst xs] => ok (.int xs.length)
  | [.tup xs] => ok (.int xs.length)
  | [.str x] => if x.length ≤ sizeLine then ok (.int x.length) else none
  | _ => none
def divmodN : OpN := fun ds => match ds with
  | [.int i, .int j] => if divOk j then ok (.tup [.int (i / j), .int (i % j)]) else none
  | _ => none
/-- a list of ints -/
def ints? : List D → Option (List Int)
  | [] => some []
  | .int i :: r => (ints? r).map (i :: ·)
  | _ => none
theorem ints?_map : ∀ ns : List Int, ints? (ns.map D.int) = some ns
  | [] => rfl
  | n :: ns => by rw [List.map_cons, ints?, ints?_map ns]; rfl
theorem of_ints? : ∀ {ds : List D} {ns : List Int}, ints? ds = some ns → ds = ns.map D.int
  | [], _, h => by cases h; rfl
  | d :: ds, ns, h => by
    cases d with
    | int i =>
      rw [ints?] at h
      cases e : ints? ds with
      | none => (rw [e] at h; cases h)
      | some ms =>
        rw [e] at h
        cases h
        rw [of_ints? e]
        rfl
    | _ => cases h
def sumN : OpN := fun ds => match ds with
  | [.lst xs] => match ints? xs with
    | some ns => ok (.int ns.sum)
    | none => none
  | _ => none
/-- greatest, least of a list that is not empty -/
def maxL : List Int → Int
  | [] => 0
  | [x] => x
  | x :: r => max x (maxL r)
def minL : List Int → Int
  | [] => 0
  | [x] => x
  | x :: r => min x (minL r)
theorem maxL_spec : ∀ (ns : List Int), ns ≠ [] → maxL ns ∈ ns ∧ ∀ y ∈ ns, y ≤ maxL ns
  | [], h => absurd rfl h
  | [x], _ => by simp [maxL]
  | x :: y :: r, _ => by
    obtain ⟨h1, h2⟩ := maxL_spec (y :: r) (by simp)
    rw [maxL]
    · constructor
      · by_cases c : x ≤ maxL (y :: r)
        · rw [Int.max_eq_right c]; exact List.mem_cons_of_mem _ h1
        · rw [Int.max_eq_left (by omega)]; exact List.mem_cons_self
      · intro z hz
        (rcases List.mem_cons.mp hz with rfl | hz)
        · exact Int.le_max_left _ _
        · exact Int.le_trans (h2 z hz) (Int.le_max_right _ _)
    · simp
theorem minL_spec : ∀ (ns : List Int), ns ≠ [] → minL ns ∈ ns ∧ ∀ y ∈ ns, minL ns ≤ y
  | [], h => absurd rfl h
  | [x], _ => by simp [minL]
  | x :: y :: r, _ => by
    obtain ⟨h1, h2⟩ := minL_spec (y :: r) (by simp)
    rw [minL]
    · constructor
      · by_cases c : x ≤ minL (y :: r)
        · rw [Int.min_eq_left c]; exact List.mem_cons_self
        · rw [Int.min_eq_right (by omega)]; exact List.mem_cons_of_mem _ h1
      · intro z hz
        (rcases List.mem_cons.mp hz with rfl | hz)
        · exact Int.min_le_left _ _
        · exact Int.le_trans (Int.min_le_right _ _) (h2 z hz)
    · simp
def maxN : OpN := fun ds => match ds with
  | [.lst xs] => match ints? xs with
    | some (n :: ns) => ok (.int (maxL (n :: ns)))
    | _ => none
  | _ => none
def minN : OpN := fun ds => match ds with
  | [.lst xs] => match ints? xs with
    | some (n :: ns) => ok (.int (minL (n :: ns)))
    | _ => none
  | _ => none
/-- list(xs), tuple(xs) of a list or a tuple -/
def listN : OpN := fun ds => match ds with
  | [.lst xs] => ok (.lst xs)
  | [.tup xs] => ok (.lst xs)
  | _ => none
def tupleN : OpN := fun ds => match ds with
  | [.lst xs] => ok (.tup xs)
  | [.tup xs] => ok (.tup xs)
  | _ => none
section
variable {X : Cx} {K : PySem.W.Frag} {cl : Cl} {wx : WX}
theorem Fin1.new {O : List Addr} {H : Hp} {Q : VK} {d : D} {p : Addr} {u : HO} (h : Fin1 K cl O H Q (ok d)) (np : H p = none) (r : Rp K cl (hide O (upd H p u)) (.ref p) d) : Q (.ref p) (upd H p u) := h _ _ (same_upd np) r
theorem hide_new {O : List Addr} {H : Hp} {p : Addr} {u : HO} (al : ∀ a ∈ O, H a ≠ none) (np : H p = none) : hide O (upd H p u) p = some u := hide_some.mpr ⟨fun z => al p z np, upd_same⟩
theorem hide_upd {O : List Addr} {H : Hp} {p : Addr} {u : HO} (np : H p = none) : Same (hide O H) (hide O (upd H p u)) := fun b o e =>
  let ⟨n, e⟩ := hide_some.mp e
  hide_some.mpr ⟨n, same_upd np b o e⟩
theorem c_abs : CallK X K cl (.builtin "abs") absN := by
  refine ⟨_, call_abs, fun O H xs ds Q al r h => ?_⟩
  unfold absN at h
  split at h
  · obtain ⟨v, rfl, rv⟩ := r.one
    cases rv
    exact ⟨_, rfl, h.now (.int _)⟩
  · exact h.elim
theorem c_max2 (hc : X.calm = true := by rfl) : CallK X K cl (.builtin "max") max2N := by
  refine ⟨_, call_max2 hc, fun O H xs ds Q al r h => ?_⟩
  unfold max2N at h
  split at h
  · obtain ⟨v, u, rfl, rv, ru⟩ := r.two
    cases rv
    cases ru
    exact ⟨_, _, rfl, h.now (.int _)⟩
  · exact h.elim
theorem c_min2 (hc : X.calm = true := by rfl) : CallK X K cl (.builtin "min") min2N := by
  refine ⟨_, call_min2 hc, fun O H xs ds Q al r h => ?_⟩
  unfold min2N at h
  split at h
  · obtain ⟨v, u, rfl, rv, ru⟩ := r.two
    cases rv
    cases ru
    exact ⟨_, _, rfl, h.now (.int _)⟩
  · exact h.elim
theorem c_int : CallK X K cl (.type "int") intN := by
  refine ⟨_, call_int1, fun O H xs ds Q al r h => ?_⟩
  unfold intN at h
  split at h
  · obtain ⟨v, rfl, rv⟩ := r.one
    cases rv
    exact .inl ⟨_, rfl, h.now (.int _)⟩
  · obtain ⟨v, rfl, rv⟩ := r.one
    cases rv
    exact .inr ⟨_, rfl, h.now (.int _)⟩
  · exact h.elim
theorem c_str : CallK X K cl (.type "str") strN := by
  refine ⟨_, call_str_int, fun O H xs ds Q al r h => ?_⟩
  unfold strN at h
  split at h
  · obtain ⟨v, rfl, rv⟩ := r.one
    cases rv
    split at h
    · next c => exact ⟨_, rfl, c, h.now (.str _)⟩
    · exact h.elim
  · exact h.elim
theorem c_len : CallK X X.K cl (.builtin "len") lenN := by
  refine ⟨_, call_len, fun O H xs ds Q al r h => ?_⟩
  unfold lenN at h
  split at h
  · obtain ⟨v, rfl, rv⟩ := r.one
    cases rv with
    | lst s r =>
      refine ⟨_, _, rfl, .inl ⟨_, hide_le.seq s, rfl⟩, ?_⟩
      rw [r.len]
      exact h.now (.int _)
  · obtain ⟨v, rfl, rv⟩ := r.one
    cases rv with
    | tup s r =>
      refine ⟨_, _, rfl, .inr ⟨_, same_sqT hide_le s, rfl⟩, ?_⟩
      rw [r.len]
      exact h.now (.int _)
  · obtain ⟨v, rfl, rv⟩ := r.one
    cases rv
    split at h
    · next c => exact ⟨_, _, rfl, ⟨c, rfl⟩, h.now (.int _)⟩
    · exact h.elim
  · exact h.elim
/-- divmod by a positive divisor below 2 ^ 9000 -/
theorem call_dm : CallR X (.builtin "divmod") (fun xs H Q => ∃ i j, xs = [.int i, .int j] ∧ divOk j ∧ ∀ p, H p = none → Q (.ref p) (upd H p (.tup [.int (i / j), .int (i % j)]))) := by
  (intro pins s σ H xs us Q I r h)
  obtain ⟨i, j, rfl, ⟨pos, few⟩, q⟩ := h
  obtain ⟨u1, u2, rfl, ⟨t1, rfl⟩, ⟨t2, rfl⟩⟩ := vals2 r
  refine divmod_int (by omega) ?_ (.inl (PyProof.noPylong_of_log2 few))
  (rw [Int.fdiv_eq_ediv_of_nonneg i (by omega), Int.fmod_eq_emod_of_nonneg i (by omega)])
  refine ⟨.ref s.heap.objs.size, _, ?_, rfl, q _ (I.hok.fresh (Nat.le_refl _))⟩
  have two : ([.int (i / j), .int (i % j)] : List V).length ≤ sizeLine := by
    show 2 ≤ 2 ^ 24
    decide
  exact I.laid (fun b o e => Heap.get?_push_of_some _ e) (Nat.le_refl _) ⟨two, [.int (i / j) s.toks, .int (i % j) (s.toks + 1)], .cons ⟨_, rfl⟩ (.cons ⟨_, rfl⟩ .nil), _, Heap.get?_push_size s.heap rfl, rfl, 0, rfl⟩
theorem c_divmod : CallK X K cl (.builtin "divmod") divmodN := by
  refine ⟨_, call_dm, fun O H xs ds Q al r h => ?_⟩
  unfold divmodN at h
  split at h
  · obtain ⟨v, u, rfl, rv, ru⟩ := r.two
    cases rv
    cases ru
    split at h
    · next c =>
      refine ⟨_, _, rfl, c, fun p np => h.new np (.tup (.inl (.inl (hide_new al np))) (.cons (.int _) (.cons (.int _) .nil)))⟩
    · exact h.elim
  · exact h.elim
theorem c_sum (hc : X.calm = true := by rfl) : CallK X X.K cl (.builtin "sum") sumN := by
  refine ⟨_, cr_sum hc, fun O H xs ds Q al r h => ?_⟩
  unfold sumN at h
  split at h
  · obtain ⟨v, rfl, rv⟩ := r.one
    split at h
    · next ns e =>
      rw [of_ints? e] at rv
      cases rv with
      | lst s r =>
        rw [r.ints] at s
        exact ⟨_, ns, rfl, hide_le.seq s, h.now (.int _)⟩
    · exact h.elim
  · exact h.elim
theorem c_max (hc : X.calm = true := by rfl) : CallK X X.K cl (.builtin "max") maxN := by
  refine ⟨_, cr_max hc, fun O H xs ds Q al r h => ?_⟩
  unfold maxN at h
  split at h
  · obtain ⟨v, rfl, rv⟩ := r.one
    split at h
    · next n ns e =>
      rw [of_ints? e] at rv
      cases rv with
      | lst s r =>
        rw [r.ints] at s
        refine ⟨_, n :: ns, rfl, hide_le.seq s, by simp, fun m hm hy => ?_⟩
        obtain ⟨h1, h2⟩ := maxL_spec (n :: ns) (by simp)
        have e2 : m = maxL (n :: ns) := Int.le_antisymm (h2 m hm) (hy _ h1)
        rw [e2]
        exact h.now (.int _)
    · exact h.elim
  · exact h.elim
theorem c_min (hc : X.calm = true := by rfl) : CallK X X.K cl (.builtin "min") minN := by
  refine ⟨_, cr_min hc, fun O H xs ds Q al r h => ?_⟩
  unfold minN at h
  split at h
  · obtain ⟨v, rfl, rv⟩ := r.one
    split at h
    · next n ns e =>
      rw [of_ints? e] at rv
      cases rv with
      | lst s r =>
        rw [r.ints] at s
        refine ⟨_, n :: ns, rfl, hide_le.seq s, by simp, fun m hm hy => ?_⟩
        obtain ⟨h1, h2⟩ := minL_spec (n :: ns) (by simp)
        have e2 : m = minL (n :: ns) := Int.le_antisymm (hy _ h1) (h2 m hm)
        rw [e2]
        exact h.now (.int _)
    · exact h.elim
  · exact h.elim
theorem c_list : CallK X X.K cl (.type "list") listN := by
  refine ⟨_, call_list_of, fun O H xs ds Q al r h => ?_⟩
  unfold listN at h
  split at h
  · obtain ⟨v, rfl, rv⟩ := r.one
    cases rv with
    | lst s r => exact ⟨_, _, rfl, .inl (hide_le.seq s), fun p np => h.new np (.lst (.inl (.inl (hide_new al np))) (r.mono (hide_upd np)))⟩
  · obtain ⟨v, rfl, rv⟩ := r.one
    cases rv with
    | tup s r => exact ⟨_, _, rfl, .inr (same_sqT hide_le s), fun p np => h.new np (.lst (.inl (.inl (hide_new al np))) (r.mono (hide_upd np)))⟩
  · exact h.elim
theorem c_tuple : CallK X X.K cl (.type "tuple") tupleN := by
  refine ⟨_, call_tuple_of, fun O H xs ds Q al r h => ?_⟩
  unfold tupleN at h
  split at h
  · obtain ⟨v, rfl, rv⟩ := r.one
    cases rv with
    | lst s r => exact ⟨_, _, rfl, .inl ⟨hide_le.seq s, fun p np => h.new np (.tup (.inl (.inl (hide_new al np))) (r.mono (hide_upd np)))⟩⟩
  · obtain ⟨v, rfl, rv⟩ := r.one
    cases rv with
    | tup s r => exact ⟨_, _, rfl, .inr ⟨same_sqT hide_le s, h.now (.tup s r)⟩⟩
  · exact h.elim
end
/-! ### repr of plain lists and tuples -/
mutual
/-- a bound for the text of plain data -/
def D.bound : D → Nat
  | .non => 4
  | .bl _ => 5
  | .int i => i.natAbs.log2 + 2
  | .str x => 10 * x.length + 2
  | .lst xs => D.bounds xs + 2
  | .tup xs => D.bounds xs + 3
  | .obj _ _ => 0
  | .dic _ _ => 0
  | .reg _ => 0
  | .err _ _ => 0
def D.bounds : List D → Nat
  | [] => 0
  | x :: xs => D.bound x + 2 + D.bounds xs
end
def reprN : OpN := fun ds => match ds with
  | [.lst xs] => if D.plains xs ∧ (D.py (.lst xs)).showable = true ∧ (D.py (.lst xs)).depth ≤ 60 ∧ (D.py (.lst xs)).shown.length ≤ sizeLine then ok (.str (D.py (.lst xs)).shown) else none
  | [.tup xs] => if D.plains xs ∧ (D.py (.tup xs)).showable = true ∧ (D.py (.tup xs)).depth ≤ 60 ∧ (D.py (.tup xs)).shown.length ≤ sizeLine then ok (.str (D.py (.tup xs)).shown) else none
  | _ => none
mutual
theorem nodict_py : ∀ d : D, d.py.hasDict = false
  | .non => by rw [D.py, PyData.hasDict]
  | .bl _ => by rw [D.py, PyData.hasDict]
  | .int _ => by rw [D.py, PyData.hasDict]
  | .str _ => by rw [D.py, PyData.hasDict]
  | .lst xs => by rw [D.py, PyData.hasDict]; exact nodict_pys xs
  | .tup xs => by rw [D.py, PyData.hasDict]; exact nodict_pys xs
  | .obj _ _ => by rw [D.py, PyData.hasDict]
  | .dic _ _ => by rw [D.py, PyData.hasDict]
  | .reg _ => by rw [D.py, PyData.hasDict]
  | .err _ _ => by rw [D.py, PyData.hasDict]
theorem nodict_pys : ∀ ds : List D, PyData.hasDictAll (D.pys ds) = false
  | [] => by rw [D.pys, PyData.hasDictAll]
  | d :: ds => by rw [D.pys, PyData.hasDictAll, nodict_py d, nodict_pys ds]; rfl
end
/-- repr of what reads as d -/
def rRepr (K : PySem.W.Frag) : List V → Hp → VK → Prop := fun xs H Q => ∃ (a : Addr) (d : PyData), xs = [.ref a] ∧ Dp K H (.ref a) d ∧ d.showable = true ∧ d.hasDict = false ∧ d.depth ≤ 60 ∧ d.shown.length ≤ sizeLine ∧ Q (.str d.shown) H
section
variable {X : Cx} {cl : Cl} {wx : WX}
theorem call_repr (hg : X.A.guards = some []) (hu : X.A.units + 64 < cLine) : CallR X (.builtin "repr") (rRepr X.K) := by
  (intro pins s σ H xs us Q I r h)
  obtain ⟨a, d, rfl, hd, h1, h2, h3, h4, q⟩ := h
  (obtain ⟨u, rfl, ru⟩ := vals1 r)
  cases ru
  obtain ⟨as, rd⟩ := Dp.reads I d _ _ hd rfl
  refine repr_of_reads' rd h1 (PyData.noDict_hsm h2) hg (by omega) (fun _ _ e => e) (fun h' u tk hk => ?_) h4
  exact ⟨.str d.shown, H, I.kept hk, ⟨_, rfl⟩, q⟩
theorem c_repr (hg : X.A.guards = some []) (hu : X.A.units + 64 < cLine) : CallK X X.K cl (.builtin "repr") reprN := by
  refine ⟨_, call_repr hg hu, fun O H xs ds Q al r h => ?_⟩
  unfold reprN at h
  split at h
  · next ys =>
    obtain ⟨v, rfl, rv⟩ := r.one
    split at h
    · next c =>
      obtain ⟨c1, c2, c3, c4⟩ := c
      have hd : Dp X.K H v (D.py (.lst ys)) := rv.dp (by rw [D.plain]; exact c1)
      cases rv with
      | lst s r => exact ⟨_, _, rfl, hd, c2, nodict_py _, c3, c4, h.now (.str _)⟩
    · exact h.elim
  · next ys =>
    obtain ⟨v, rfl, rv⟩ := r.one
    split at h
    · next c =>
      obtain ⟨c1, c2, c3, c4⟩ := c
      have hd : Dp X.K H v (D.py (.tup ys)) := rv.dp (by rw [D.plain]; exact c1)
      cases rv with
      | tup s r => exact ⟨_, _, rfl, hd, c2, nodict_py _, c3, c4, h.now (.str _)⟩
    · exact h.elim
  · exact h.elim
end
end Dt
namespace Dt
open L2 PySem PySem.Spec PyProof.Rows
/-! ### what is walked -/
structure ItOK (K : PySem.W.Frag) (cl : Cl) (O : List Addr) (H0 : Hp) (ds : List D) (J : It) : Prop where
  go : ∀ (i : Nat) (O' : List Addr) (H : Hp), Same (hide O H0) (hide O' H) → i < ds.length → J.go i H
  stop : ∀ (i : Nat) (O' : List Addr) (H : Hp), Same (hide O H0) (hide O' H) → ds.length ≤ i → J.stop i H
  yld : ∀ (i : Nat) (O' : List Addr) (H : Hp) (x : V) (H' : Hp), Same (hide O H0) (hide O' H) → (∀ a ∈ O', H a ≠ none) → J.yld i H x H' → Same H H' ∧ ∀ d, ds[i]? = some d → Rp K cl (hide O' H') x d
def PostI (K : PySem.W.Frag) (cl : Cl) (wx : WX) (w : Wf) (L : List Addr) (σ : L2.St) (H : Hp) (R : It → Hp → Prop) : M (List D × S) → Prop
  | some (.ok (ds, s')) => ∀ J H', Step w L H L H' → Wl K cl w L s' σ H' → ItOK K cl (L ++ w.O0) H' ds J → R J H'
  | some (.ex e s') => Wish K cl wx w e s'
  | none => False
def TIof (K : PySem.W.Frag) (cl : Cl) (wx : WX) (f : S → M (List D × S)) : TI := fun σ H R => ∃ w L sd, Wl K cl w L sd σ H ∧ PostI K cl wx w L σ H R (f sd)
def iLst (fa : S → M (D × S)) : S → M (List D × S) := fun s => bd (fa s) fun p => match p.1 with
  | .lst ds => ok (ds, p.2)
  | _ => none
def iTp (fa : S → M (D × S)) : S → M (List D × S) := fun s => bd (fa s) fun p => match p.1 with
  | .tup ds => ok (ds, p.2)
  | _ => none
def rangeD (i : Int) (n : Nat) : List D := (List.range n).map fun (k : Nat) => D.int (i + (k : Int))
def rngOk (i : Int) : Prop := -(2 ^ 62) ≤ i ∧ i < 2 ^ 62
instance (i : Int) : Decidable (rngOk i) := by unfold rngOk; infer_instance
def iR1 (fr : S → M (List D × S)) : S → M (List D × S) := fun s => bd (fr s) fun p => match p.1 with
  | [.int j] => if rngOk j then ok (rangeD 0 j.toNat, p.2) else none
  | _ => none
def iR2 (fr : S → M (List D × S)) : S → M (List D × S) := fun s => bd (fr s) fun p => match p.1 with
  | [.int i, .int j] => if rngOk i ∧ rngOk j then ok (rangeD i (j - i).toNat, p.2) else none
  | _ => none
def enumD : Nat → List D → List D
  | _, [] => []
  | i, d :: ds => .tup [.int i, d] :: enumD (i + 1) ds
def iEn (fr : S → M (List D × S)) : S → M (List D × S) := fun s => bd (fr s) fun p => match p.1 with
  | [.lst ds] => ok (enumD 0 ds, p.2)
  | _ => none
def zipD : List D → List D → List D
  | d :: ds, e :: es => .tup [d, e] :: zipD ds es
  | _, _ => []
def iZp (fr : S → M (List D × S)) : S → M (List D × S) := fun s => bd (fr s) fun p => match p.1 with
  | [.lst ds, .lst es] => ok (zipD ds es, p.2)
  | _ => none
theorem rangeD_len (i : Int) (n : Nat) : (rangeD i n).length = n := by simp [rangeD]
theorem rangeD_get (i : Int) (n k : Nat) (h : k < n) : (rangeD i n)[k]? = some (.int (i + (k : Int))) := by
  unfold rangeD
  rw [List.getElem?_map, List.getElem?_range h]
  rfl
theorem enumD_len : ∀ (i : Nat) (ds : List D), (enumD i ds).length = ds.length
  | _, [] => rfl
  | i, d :: ds => by rw [enumD, List.length_cons, List.length_cons, enumD_len]
theorem enumD_get : ∀ (i : Nat) (ds : List D) (k : Nat), (enumD i ds)[k]? = (ds[k]?).map fun d => .tup [.int ((i + k : Nat) : Int), d]
  | _, [], k => by simp [enumD]
  | i, d :: ds, 0 => by simp [enumD]
  | i, d :: ds, k + 1 => by
    rw [enumD, List.getElem?_cons_succ, enumD_get (i + 1) ds k, List.getElem?_cons_succ]
    have e : i + 1 + k = i + (k + 1) := by omega
    rw [e]
theorem zipD_get : ∀ (ds es : List D) (k : Nat) (d e : D), ds[k]? = some d → es[k]? = some e → (zipD ds es)[k]? = some (.tup [d, e])
  | [], _, k, _, _, h, _ => by simp at h
  | _ :: _, [], k, _, _, _, h => by simp at h
  | d :: ds, e :: es, 0, _, _, h, h' => by simp at h h'; subst h; subst h'; rfl
  | d :: ds, e :: es, k + 1, x, y, h, h' => by
    rw [zipD, List.getElem?_cons_succ]
    exact zipD_get ds es k x y (by simpa using h) (by simpa using h')
theorem zipD_len : ∀ (ds es : List D), (zipD ds es).length = min ds.length es.length
  | [], _ => by simp [zipD]
  | _ :: _, [] => by simp [zipD]
  | d :: ds, e :: es => by rw [zipD, List.length_cons, zipD_len, List.length_cons, List.length_cons]; omega
section
variable {X : Cx} {K : PySem.W.Frag} {cl : Cl} {wx : WX} {pos p : Pos} {tg l a b e : Expr} {fa : S → M (D × S)} {fr : S → M (List D × S)}
theorem iP {X : Cx} {tg e : Expr} {t t' : TI} (h : PI X tg e t) (k : ∀ σ H Q, t' σ H Q → t σ H Q) : PI X tg e t' := ⟨fun pins s σ H Q I q => h.run pins s σ H Q I (k σ H Q q)⟩
theorem botI {w : Wf} {L : List Addr} {σ : L2.St} {H : Hp} {R : It → Hp → Prop} : Bot K cl wx w (PostI K cl wx w L σ H R) := ⟨fun h => h, fun _ _ h => h⟩
theorem itok_list {O : List Addr} {H0 : Hp} {a : Addr} {xs : List V} {ds : List D} (s : SqL K (hide O H0) a xs) (r : RpA K cl (hide O H0) xs ds) : ItOK K cl O H0 ds (Itl K a) where
  go := fun i O' H sm hi => by
    have e := r.len
    exact ⟨xs, xs[i], hide_le.seq (sm.seq s), List.getElem?_eq_getElem (by omega)⟩
  stop := fun i O' H sm hi => ⟨xs, hide_le.seq (sm.seq s), by rw [r.len]; exact hi⟩
  yld := fun i O' H x H' sm al y => by
    obtain ⟨rfl, y⟩ := y
    refine ⟨Same.refl _, fun d hd => ?_⟩
    obtain ⟨v, h1, h2⟩ := r.get i hd
    have h3 := y xs (hide_le.seq (sm.seq s))
    rw [h1] at h3
    cases h3
    exact h2.mono sm
theorem itok_tup {O : List Addr} {H0 : Hp} {a : Addr} {xs : List V} {ds : List D} (s : SqT K (hide O H0) a xs) (r : RpA K cl (hide O H0) xs ds) : ItOK K cl O H0 ds (Itt K a) where
  go := fun i O' H sm hi => by
    have e := r.len
    exact ⟨xs, xs[i], same_sqT hide_le (same_sqT sm s), List.getElem?_eq_getElem (by omega)⟩
  stop := fun i O' H sm hi => ⟨xs, same_sqT hide_le (same_sqT sm s), by rw [r.len]; exact hi⟩
  yld := fun i O' H x H' sm al y => by
    obtain ⟨rfl, y⟩ := y
    refine ⟨Same.refl _, fun d hd => ?_⟩
    obtain ⟨v, h1, h2⟩ := r.get i hd
    have h3 := y xs (same_sqT hide_le (same_sqT sm s))
    rw [h1] at h3
    cases h3
    exact h2.mono sm
theorem itok_rng {O : List Addr} {H0 : Hp} {i : Int} {n : Nat} : ItOK K cl O H0 (rangeD i n) (Itr i n) where
  go := fun k O' H sm hk => by rw [rangeD_len] at hk; exact hk
  stop := fun k O' H sm hk => by rw [rangeD_len] at hk; exact hk
  yld := fun k O' H x H' sm al y => by
    obtain ⟨rfl, rfl⟩ := y
    refine ⟨Same.refl _, fun d hd => ?_⟩
    have hk : k < n := by
      have := (List.getElem?_eq_some_iff.mp hd).1
      rwa [rangeD_len] at this
    rw [rangeD_get i n k hk] at hd
    cases hd
    exact .int _
theorem itok_en {O : List Addr} {H0 : Hp} {a : Addr} {xs : List V} {ds : List D} (s : SqL K (hide O H0) a xs) (r : RpA K cl (hide O H0) xs ds) : ItOK K cl O H0 (enumD 0 ds) (Ite K a) where
  go := fun i O' H sm hi => by
    have e := r.len
    rw [enumD_len] at hi
    exact ⟨xs, xs[i], hide_le.seq (sm.seq s), List.getElem?_eq_getElem (by omega)⟩
  stop := fun i O' H sm hi => ⟨xs, hide_le.seq (sm.seq s), by rw [r.len]; rw [enumD_len] at hi; exact hi⟩
  yld := fun i O' H x H' sm al y => by
    obtain ⟨T, x1, rfl, nT, rfl, y⟩ := y
    refine ⟨same_upd nT, fun d hd => ?_⟩
    rw [enumD_get] at hd
    cases q : ds[i]? with
    | none => rw [q] at hd; cases hd
    | some d1 =>
      rw [q] at hd
      cases hd
      obtain ⟨v, h1, h2⟩ := r.get i q
      have h3 := y xs (hide_le.seq (sm.seq s))
      rw [h1] at h3
      cases h3
      refine .tup (.inl (.inl (hide_new al nT))) (.cons ?_ (.cons ((h2.mono sm).mono (hide_upd nT)) .nil))
      have e : (0 + i : Nat) = i := by omega
      rw [e]
      exact .int _
theorem itok_zp {O : List Addr} {H0 : Hp} {a b : Addr} {xs ys : List V} {ds es : List D} (s : SqL K (hide O H0) a xs) (r : RpA K cl (hide O H0) xs ds) (s2 : SqL K (hide O H0) b ys) (r2 : RpA K cl (hide O H0) ys es) : ItOK K cl O H0 (zipD ds es) (Itz K a b) where
  go := fun i O' H sm hi => by
    have e := r.len
    have e2 := r2.len
    rw [zipD_len] at hi
    exact ⟨xs, ys, xs[i], ys[i], hide_le.seq (sm.seq s), hide_le.seq (sm.seq s2), List.getElem?_eq_getElem (by omega), List.getElem?_eq_getElem (by omega)⟩
  stop := fun i O' H sm hi => by
    have e := r.len
    have e2 := r2.len
    rw [zipD_len] at hi
    exact ⟨xs, ys, hide_le.seq (sm.seq s), hide_le.seq (sm.seq s2), by omega⟩
  yld := fun i O' H x H' sm al y => by
    obtain ⟨T, x1, x2, rfl, nT, rfl, y1, y2⟩ := y
    refine ⟨same_upd nT, fun d hd => ?_⟩
    have hi := (List.getElem?_eq_some_iff.mp hd).1
    rw [zipD_len] at hi
    have q1 : ds[i]? = some ds[i] := List.getElem?_eq_getElem (by omega)
    have q2 : es[i]? = some es[i] := List.getElem?_eq_getElem (by omega)
    rw [zipD_get ds es i _ _ q1 q2] at hd
    cases hd
    obtain ⟨v, h1, h2⟩ := r.get i q1
    obtain ⟨v', h1', h2'⟩ := r2.get i q2
    have h3 := y1 xs (hide_le.seq (sm.seq s))
    have h3' := y2 ys (hide_le.seq (sm.seq s2))
    rw [h1] at h3
    rw [h1'] at h3'
    cases h3
    cases h3'
    exact .tup (.inl (.inl (hide_new al nT))) (.cons ((h2.mono sm).mono (hide_upd nT)) (.cons ((h2'.mono sm).mono (hide_upd nT)) .nil))
theorem w_list (hl : PE X l (TEof X.K cl wx fa)) : PI X tg l (TIof X.K cl wx (iLst fa)) := by
  refine iP (pi_list hl) ?_
  rintro σ H Q ⟨w, L, sd, W, h⟩
  refine ⟨w, L, sd, W, PostE.bd botI h fun r s1 h v H1 st1 W1 rr => ?_⟩
  cases rr with
  | lst s r => exact ⟨_, rfl, ⟨_, hide_le.seq s⟩, h _ H1 st1 W1 (itok_list s r)⟩
  | _ => exact h.elim
theorem w_tup (hl : PE X l (TEof X.K cl wx fa)) : PI X tg l (TIof X.K cl wx (iTp fa)) := by
  refine iP (pi_tup hl) ?_
  rintro σ H Q ⟨w, L, sd, W, h⟩
  refine ⟨w, L, sd, W, PostE.bd botI h fun r s1 h v H1 st1 W1 rr => ?_⟩
  cases rr with
  | tup s r => exact ⟨_, rfl, ⟨_, same_sqT hide_le s⟩, h _ H1 st1 W1 (itok_tup s r)⟩
  | _ => exact h.elim
theorem w_range1 (hm : X.mg "range" = none) (ha : PA X [a] (TAof K cl wx fr)) (hg : Gl X "range" := by rfl) (hs : starEach [a] X.env = [(false, eval a X.env)] := by rfl) : PI X tg (.Call (.Name "range" p) [a] [] pos) (TIof K cl wx (iR1 fr)) := by
  refine iP (pi_range1 hg hm ha hs) ?_
  rintro σ H Q ⟨w, L, sd, W, h⟩
  refine ⟨w, L, sd, W, PostA.bd botI h fun rs s1 h vs H1 st1 W1 rr => ?_⟩
  dsimp only at h
  split at h
  · obtain ⟨v, rfl, rv⟩ := rr.one
    cases rv
    split at h
    · next c => exact ⟨_, rfl, c.1, c.2, h _ H1 st1 W1 itok_rng⟩
    · exact h.elim
  · exact h.elim
theorem w_range2 (hm : X.mg "range" = none) (ha : PA X [a, b] (TAof K cl wx fr)) (hg : Gl X "range" := by rfl) (hs : starEach [a, b] X.env = [(false, eval a X.env), (false, eval b X.env)] := by rfl) (hs2 : starEach [b] X.env = [(false, eval b X.env)] := by rfl) : PI X tg (.Call (.Name "range" p) [a, b] [] pos) (TIof K cl wx (iR2 fr)) := by
  refine iP (pi_range2 hg hm ha hs hs2) ?_
  rintro σ H Q ⟨w, L, sd, W, h⟩
  refine ⟨w, L, sd, W, PostA.bd botI h fun rs s1 h vs H1 st1 W1 rr => ?_⟩
  dsimp only at h
  split at h
  · obtain ⟨v, u, rfl, rv, ru⟩ := rr.two
    cases rv
    cases ru
    split at h
    · next c => exact ⟨_, _, rfl, ⟨c.1.1, c.1.2, c.2.1, c.2.2⟩, h _ H1 st1 W1 itok_rng⟩
    · exact h.elim
  · exact h.elim
theorem w_enum {elts : List Expr} {kk : Nat} {tpos : Pos} (hm : X.mg "enumerate" = none) (ha : PA X [e] (TAof X.K cl wx fr)) (hg : Gl X "enumerate" := by rfl) (hs : starEach [e] X.env = [(false, eval e X.env)] := by rfl) : PI X (.Tuple elts kk tpos) (.Call (.Name "enumerate" p) [e] [] pos) (TIof X.K cl wx (iEn fr)) := by
  refine iP (pi_enum hg hm ha hs) ?_
  rintro σ H Q ⟨w, L, sd, W, h⟩
  refine ⟨w, L, sd, W, PostA.bd botI h fun rs s1 h vs H1 st1 W1 rr => ?_⟩
  dsimp only at h
  split at h
  · obtain ⟨v, rfl, rv⟩ := rr.one
    cases rv with
    | lst s r => exact ⟨_, _, rfl, hide_le.seq s, h _ H1 st1 W1 (itok_en s r)⟩
  · exact h.elim
theorem w_zip {e2 : Expr} {elts : List Expr} {kk : Nat} {tpos : Pos} (hm : X.mg "zip" = none) (ha : PA X [e, e2] (TAof X.K cl wx fr)) (hg : Gl X "zip" := by rfl) (hs : starEach [e, e2] X.env = (false, eval e X.env) :: starEach [e2] X.env := by rfl) (hpl : (backTo pos (starEach [e2] X.env)).any (·.1) = false := by rfl) :
    PI X (.Tuple elts kk tpos) (.Call (.Name "zip" p) [e, e2] [] pos) (TIof X.K cl wx (iZp fr)) := by
  refine iP (pi_zip hg hm ha hs hpl) ?_
  rintro σ H Q ⟨w, L, sd, W, h⟩
  refine ⟨w, L, sd, W, PostA.bd botI h fun rs s1 h vs H1 st1 W1 rr => ?_⟩
  dsimp only at h
  split at h
  · obtain ⟨v, u, rfl, rv, ru⟩ := rr.two
    cases rv with
    | lst s r =>
      cases ru with
      | lst s2 r2 => exact ⟨_, _, _, _, rfl, hide_le.seq s, hide_le.seq s2, h _ H1 st1 W1 (itok_zp s r s2 r2)⟩
  · exact h.elim
end
/-! ### targets -/
/-- the slots other than ts are as they were -/
structure Agree (ts : List Nat) (σ σ' : L2.St) : Prop where
  len : σ'.length = σ.length
  out : ∀ i, i ∉ ts → σ'[i]? = σ[i]?
def PostG (K : PySem.W.Frag) (cl : Cl) (wx : WX) (ts : List Nat) (w : Wf) (L : List Addr) (σ : L2.St) (H : Hp) (Q : L2.St → Hp → Prop) : M S → Prop
  | some (.ok s') => ∀ σ' H', Step w L H L H' → Wl K cl w L s' σ' H' → Agree ts σ σ' → Q σ' H'
  | _ => False
def TGof (K : PySem.W.Frag) (cl : Cl) (wx : WX) (ts : List Nat) (f : D → S → M S) : TG := fun v σ H Q => ∃ w L sd d, Wl K cl w L sd σ H ∧ Rp K cl (hide (L ++ w.O0) H) v d ∧ PostG K cl wx ts w L σ H Q (f d sd)
def TGsof (K : PySem.W.Frag) (cl : Cl) (wx : WX) (ts : List Nat) (f : List D → S → M S) : TGs := fun vs σ H Q => ∃ w L sd ds, Wl K cl w L sd σ H ∧ RpA K cl (hide (L ++ w.O0) H) vs ds ∧ PostG K cl wx ts w L σ H Q (f ds sd)
def gNm (i : Nat) : D → S → M S := fun d s => ok (s.set i (.val d))
def gTp (f : List D → S → M S) : D → S → M S := fun d s => match d with
  | .tup ds => f ds s
  | _ => none
def gsNil : List D → S → M S := fun ds s => match ds with
  | [] => ok s
  | _ => none
def gsCons (f : D → S → M S) (g : List D → S → M S) : List D → S → M S := fun ds s => match ds with
  | d :: ds => bd (f d s) fun s1 => g ds s1
  | _ => none
section
variable {X : Cx} {K : PySem.W.Frag} {cl : Cl} {wx : WX} {pos : Pos} {w : Wf} {L : List Addr} {sd : S} {σ : L2.St} {H : Hp}
/-- a slot takes a value -/
theorem Wl.set (W : Wl K cl w L sd σ H) {i : Nat} {v : V} {d : D} (r : Rp K cl (hide (L ++ w.O0) H) v d) : Wl K cl w L (sd.set i (.val d)) (σ.set i (some v)) H := by
  have get : ∀ {j : Nat} {x : Sl}, j ≠ i → (sd.set i (.val d))[j]? = some x → sd[j]? = some x := fun h e => by rwa [List.getElem?_set_ne (Ne.symm h)] at e
  have getv : ∀ {j : Nat} {x : Option V}, j ≠ i → σ[j]? = some x → (σ.set i (some v))[j]? = some x := fun h e => by rwa [List.getElem?_set_ne (Ne.symm h)]
  have nown : ∀ {x : Sl}, (sd.set i (.val d))[i]? = some x → x = .val d ∧ i < sd.length := fun {x} e => by
    by_cases h : i < sd.length
    · rw [List.getElem?_set_self h] at e; cases e; exact ⟨rfl, h⟩
    · rw [List.getElem?_eq_none (by simpa using h)] at e; cases e
  refine ⟨W.keep, W.fresh, W.alive, W.disj, W.sub, ⟨fun j e he => ?_, fun j e he => ?_, fun j e he => ?_, fun j k e f a he hf h1 h2 => ?_, fun j k e f he hf => ?_, by simpa using W.st.len⟩⟩
  · by_cases h : j = i
    · subst h
      obtain ⟨q, hl⟩ := nown he
      cases q
      exact ⟨v, List.getElem?_set_self (by rw [W.st.len]; exact hl), r⟩
    · obtain ⟨u, h1, h2⟩ := W.st.val j e (get h he)
      exact ⟨u, getv h h1, h2⟩
  · by_cases h : j = i
    · subst h; cases (nown he).1
    · obtain ⟨a, h1, h2, h3⟩ := W.st.own j e (get h he)
      exact ⟨a, getv h h1, h2, h3⟩
  · by_cases h : j = i
    · subst h; cases (nown he).1
    · obtain ⟨h1, h2, h3⟩ := W.st.io j e (get h he)
      exact ⟨getv h h1, h2, h3⟩
  · by_cases hj : j = i
    · subst hj; cases (nown he).1
    · by_cases hk : k = i
      · subst hk; cases (nown hf).1
      · rw [List.getElem?_set_ne (Ne.symm hj)] at h1
        rw [List.getElem?_set_ne (Ne.symm hk)] at h2
        exact W.st.inj j k e f a (get hj he) (get hk hf) h1 h2
  · by_cases hj : j = i
    · subst hj; cases (nown he).1
    · by_cases hk : k = i
      · subst hk; cases (nown hf).1
      · exact W.st.ioj j k e f (get hj he) (get hk hf)
theorem iG {X : Cx} {e : Expr} {t t' : TG} (h : PG X e t) (k : ∀ v σ H Q, t' v σ H Q → t v σ H Q) : PG X e t' := ⟨fun pins s σ H v u Q I r q => h.run pins s σ H v u Q I r (k v σ H Q q)⟩
theorem iGs {X : Cx} {e : List Expr} {t t' : TGs} (h : PGs X e t) (k : ∀ v σ H Q, t' v σ H Q → t v σ H Q) : PGs X e t' := ⟨fun pins s σ H v u Q I r q => h.run pins s σ H v u Q I r (k v σ H Q q)⟩
theorem g_name (i : Nat) {x : Str} (hN : X.N.Nodup) (hi : X.N[i]? = some x := by rfl) (hx : Loc X.env.scope x := by first | exact Or.inl rfl | exact Or.inr rfl) (hf : X.fn x = true ∨ X.env.scope.names.lookup x = some .local := by first | exact .inl rfl | exact .inr rfl) : PG X (.Name x pos) (TGof K cl wx [i] (gNm i)) := by
  refine iG (pg_name hN hi hx hf) ?_
  rintro v σ H Q ⟨w, L, sd, d, W, r, h⟩
  exact h _ H .refl (W.set r) ⟨by rw [List.length_set], fun j hj => by
    rw [List.getElem?_set_ne]
    intro e
    exact hj (by simp [e])⟩
theorem gs_nil : PGs X [] (TGsof K cl wx [] gsNil) := by
  refine iGs pgs_nil ?_
  rintro v σ H Q ⟨w, L, sd, d, W, r, h⟩
  cases r with
  | nil => exact ⟨rfl, h σ H .refl W ⟨rfl, fun _ _ => rfl⟩⟩
  | cons a b => exact h.elim
theorem gs_cons {e : Expr} {es : List Expr} {ts us : List Nat} {f : D → S → M S} {g : List D → S → M S} (h1 : PG X e (TGof K cl wx ts f)) (h2 : PGs X es (TGsof K cl wx us g))
    (hs : (assignEach (e :: es) X.env).map (·.2) = assign e X.env :: (assignEach es X.env).map (·.2) := by rfl) : PGs X (e :: es) (TGsof K cl wx (ts ++ us) (gsCons f g)) := by
  refine iGs (pgs_cons h1 h2 hs) ?_
  rintro vs σ H Q ⟨w, L, sd, ds, W, r, h⟩
  cases r with
  | nil => exact h.elim
  | @cons v vs d ds a b =>
    refine ⟨v, vs, rfl, w, L, sd, d, W, a, ?_⟩
    have h : PostG K cl wx (ts ++ us) w L σ H Q (bd (f d sd) fun s1 => g ds s1) := h
    match (f d sd : M S), h with
    | none, h => exact h.elim
    | some (.ex _ _), h => exact h.elim
    | some (.ok s1), h =>
      intro σ1 H1 st1 W1 k1
      refine ⟨w, L, s1, ds, W1, b.mono (st1.sn W1), ?_⟩
      have h : PostG K cl wx (ts ++ us) w L σ H Q (g ds s1) := h
      match (g ds s1 : M S), h with
      | none, h => exact h.elim
      | some (.ex _ _), h => exact h.elim
      | some (.ok s2), h =>
        intro σ2 H2 st2 W2 k2
        refine h σ2 H2 (st1.trans st2) W2 ⟨k2.len.trans k1.len, fun i hi => ?_⟩
        rw [k2.out i fun z => hi (List.mem_append_right _ z), k1.out i fun z => hi (List.mem_append_left _ z)]
theorem gsl_nil : ∀ ds s s', gsNil ds s = some (.ok s') → ds.length = 0 := fun ds s s' h => by
  cases ds with
  | nil => rfl
  | cons d ds => cases h
theorem gsl_cons {f : D → S → M S} {g : List D → S → M S} {n : Nat} (hg : ∀ ds s s', g ds s = some (.ok s') → ds.length = n) : ∀ ds s s', gsCons f g ds s = some (.ok s') → ds.length = n + 1 := fun ds s s' h => by
  cases ds with
  | nil => cases h
  | cons d ds =>
    have h : bd (f d s) (fun s1 => g ds s1) = some (.ok s') := h
    generalize f d s = m at h
    match m, h with
    | none, h => cases h
    | some (.ex _ _), h => cases h
    | some (.ok s1), h =>
      have h : g ds s1 = some (.ok s') := h
      rw [List.length_cons, hg ds s1 s' h]
/-- a target raises nothing -/
class NoX (f : D → S → M S) : Prop where
  no : ∀ d s e s', f d s = some (.ex e s') → False
class NoXs (f : List D → S → M S) : Prop where
  no : ∀ d s e s', f d s = some (.ex e s') → False
instance (i : Nat) : NoX (gNm i) := ⟨fun d s e s' h => by cases h⟩
instance : NoXs gsNil := ⟨fun d s e s' h => by
  cases d <;> cases h⟩
instance (f : D → S → M S) (g : List D → S → M S) [a : NoX f] [b : NoXs g] : NoXs (gsCons f g) := ⟨fun d s e s' h => by
  cases d with
  | nil => cases h
  | cons d ds =>
    have h : bd (f d s) (fun s1 => g ds s1) = some (.ex e s') := h
    generalize q : f d s = m at h
    match m, h with
    | some (.ex _ _), h => exact a.no _ _ _ _ q
    | some (.ok s1), h => exact b.no _ _ _ _ h⟩
instance (f : List D → S → M S) [a : NoXs f] : NoX (gTp f) := ⟨fun d s e s' h => by
  cases d with
  | tup ds => exact a.no _ _ _ _ h
  | _ => cases h⟩
theorem g_tup {es : List Expr} {k : Nat} {ts : List Nat} {f : List D → S → M S} (hc : X.calm = true) (h : PGs X es (TGsof X.K cl wx ts f)) (n : Nat) (hf : ∀ ds s s', f ds s = some (.ok s') → ds.length = n)
    (hn : (assignEach es X.env).length = n := by rfl) (hst : (assignEach es X.env).findIdx? (·.1) = none := by rfl) : PG X (.Tuple es k pos) (TGof X.K cl wx ts (gTp f)) := by
  refine iG (pg_tup hc h hn hst) ?_
  rintro v σ H Q ⟨w, L, sd, d, W, r, h⟩
  cases r with
  | @tup a xs ds s r =>
    have h : PostG X.K cl wx ts w L σ H Q (f ds sd) := h
    refine ⟨a, xs, rfl, same_sqT hide_le s, ?_, w, L, sd, ds, W, r, h⟩
    rw [r.len]
    generalize e : f ds sd = m at h
    match m, h with
    | none, h => exact h.elim
    | some (.ex _ _), h => exact h.elim
    | some (.ok s1), _ => exact hf ds sd s1 e
  | _ => exact h.elim
end
end Dt
namespace Dt
open L2 PySem PySem.Spec PyProof.Rows
/-! ### comprehensions -/
def wipeS (s : S) : List Nat → S
  | [] => s
  | v :: vs => (wipeS s vs).set v .un
/-- what a value slot held -/
def keepV : Option Sl → Sl
  | some (.val d) => .val d
  | _ => .un
def restS (s0 s : S) : List Nat → S
  | [] => s
  | v :: vs => (restS s0 s vs).set v (keepV s0[v]?)
theorem wipeS_len (s : S) : ∀ vs : List Nat, (wipeS s vs).length = s.length
  | [] => rfl
  | v :: vs => by rw [wipeS, List.length_set, wipeS_len s vs]
theorem restS_len (s0 s : S) : ∀ vs : List Nat, (restS s0 s vs).length = s.length
  | [] => rfl
  | v :: vs => by rw [restS, List.length_set, restS_len s0 s vs]
theorem wipeS_out (s : S) (i : Nat) : ∀ vs : List Nat, i ∉ vs → (wipeS s vs)[i]? = s[i]?
  | [], _ => rfl
  | v :: vs, h => by
    rw [wipeS, List.getElem?_set_ne (fun e => h (by simp [e]))]
    exact wipeS_out s i vs fun z => h (List.mem_cons_of_mem _ z)
theorem wipeS_in (s : S) (i : Nat) (x : Sl) : ∀ vs : List Nat, i ∈ vs → (wipeS s vs)[i]? = some x → x = .un
  | [], h, _ => by simp at h
  | v :: vs, h, e => by
    rw [wipeS] at e
    by_cases q : v = i
    · subst q
      by_cases hl : v < (wipeS s vs).length
      · rw [List.getElem?_set_self hl] at e; cases e; rfl
      · rw [List.getElem?_eq_none (by simpa using hl)] at e; cases e
    · rw [List.getElem?_set_ne q] at e
      (rcases List.mem_cons.mp h with z | z)
      · exact absurd z.symm q
      · exact wipeS_in s i x vs z e
theorem wipe_out (σ : L2.St) (i : Nat) : ∀ vs : List Nat, i ∉ vs → (wipe σ vs)[i]? = σ[i]?
  | [], _ => rfl
  | v :: vs, h => by
    rw [wipe, List.getElem?_set_ne (fun e => h (by simp [e]))]
    exact wipe_out σ i vs fun z => h (List.mem_cons_of_mem _ z)
theorem wipe_in (σ : L2.St) (i : Nat) : ∀ vs : List Nat, i ∈ vs → (wipe σ vs)[i]? = if i < σ.length then some none else none
  | [], h => by simp at h
  | v :: vs, h => by
    rw [wipe]
    by_cases q : v = i
    · subst q
      rw [List.getElem?_set, if_pos rfl, wipe_length]
    · rw [List.getElem?_set_ne q]
      (rcases List.mem_cons.mp h with z | z)
      · exact absurd z.symm q
      · exact wipe_in σ i vs z
theorem wipe_eq {σ σ' : L2.St} {vs ts : List Nat} (h : Agree ts σ σ') (hs : ∀ i ∈ ts, i ∈ vs) : wipe σ' vs = wipe σ vs := by
  apply List.ext_getElem?
  intro i
  by_cases z : i ∈ vs
  · rw [wipe_in σ' i vs z, wipe_in σ i vs z, h.len]
  · rw [wipe_out σ' i vs z, wipe_out σ i vs z]
    exact h.out i fun y => z (hs i y)
theorem wipe_wipe (σ : L2.St) (vs : List Nat) : wipe (wipe σ vs) vs = wipe σ vs := by
  apply List.ext_getElem?
  intro i
  by_cases z : i ∈ vs
  · rw [wipe_in _ i vs z, wipe_in σ i vs z, wipe_length]
  · rw [wipe_out _ i vs z]
theorem restS_out (s0 s : S) (i : Nat) : ∀ vs : List Nat, i ∉ vs → (restS s0 s vs)[i]? = s[i]?
  | [], _ => rfl
  | v :: vs, h => by
    rw [restS, List.getElem?_set_ne (fun e => h (by simp [e]))]
    exact restS_out s0 s i vs fun z => h (List.mem_cons_of_mem _ z)
theorem restS_in (s0 s : S) (i : Nat) (x : Sl) : ∀ vs : List Nat, i ∈ vs → (restS s0 s vs)[i]? = some x → x = keepV s0[i]?
  | [], h, _ => by simp at h
  | v :: vs, h, e => by
    rw [restS] at e
    by_cases q : v = i
    · subst q
      by_cases hl : v < (restS s0 s vs).length
      · rw [List.getElem?_set_self hl] at e; cases e; rfl
      · rw [List.getElem?_eq_none (by simpa using hl)] at e; cases e
    · rw [List.getElem?_set_ne q] at e
      (rcases List.mem_cons.mp h with z | z)
      · exact absurd z.symm q
      · exact restS_in s0 s i x vs z e
theorem keepV_val {o : Option Sl} {d : D} (h : Sl.val d = keepV o) : o = some (.val d) := by
  match o, h with
  | none, h => cases h
  | some .un, h => cases h
  | some (.val e), h => cases h; rfl
  | some (.own e), h => cases h
  | some (.io e), h => cases h
theorem keepV_own {o : Option Sl} {d : D} (h : Sl.own d = keepV o) : False := by
  match o, h with
  | none, h => cases h
  | some .un, h => cases h
  | some (.val e), h => cases h
  | some (.own e), h => cases h
  | some (.io e), h => cases h
theorem keepV_io {o : Option Sl} {d : D} (h : Sl.io d = keepV o) : False := by
  match o, h with
  | none, h => cases h
  | some .un, h => cases h
  | some (.val e), h => cases h
  | some (.own e), h => cases h
  | some (.io e), h => cases h
def compL (vs : List Nat) (T : D → S → M S) (ft : S → M (Bool × S)) (fe : S → M (D × S)) : List D → S → M (List D × S)
  | [], s => ok ([], s)
  | d :: ds, s => bd (T d s) fun s1 => bd (ft s1) fun p => if p.1 = true then bd (fe p.2) fun q => bd (compL vs T ft fe ds (wipeS q.2 vs)) fun r => ok (q.1 :: r.1, r.2) else compL vs T ft fe ds (wipeS p.2 vs)
/-- no exception comes out of a comprehension -/
def nx {α : Type} (m : M α) : M α := match m with
  | some (.ex _ _) => none
  | m => m
theorem nx_ok {α : Type} (a : α) : nx (ok a) = ok a := by
  have h : nx (ok a) = ok a := rfl
  exact h
/-- nothing is wished of exceptions -/
abbrev noW : WX := fun _ _ _ _ => False
def dComp (fi : S → M (List D × S)) (vs : List Nat) (T : D → S → M S) (ft : S → M (Bool × S)) (fe : S → M (D × S)) : S → M (D × S) := fun s =>
  bd (fi s) fun p => if p.1.length ≤ sizeLine then bd (nx (compL vs T ft fe p.1 (wipeS p.2 vs))) fun q => ok (.lst q.1, restS p.2 q.2 vs) else none
def tTrue : S → M (Bool × S) := fun s => ok (true, s)
section
variable {X : Cx} {K : PySem.W.Frag} {cl : Cl} {wx : WX} {pos : Pos} {w : Wf} {L : List Addr} {sd : S} {σ : L2.St} {H : Hp}
theorem Wl.wiped (W : Wl K cl w L sd σ H) (vs : List Nat) : Wl K cl w L (wipeS sd vs) (wipe σ vs) H := by
  have back : ∀ {i : Nat} {x : Sl}, x ≠ .un → (wipeS sd vs)[i]? = some x → i ∉ vs ∧ sd[i]? = some x := fun {i x} hx e => by
    by_cases z : i ∈ vs
    · exact absurd (wipeS_in sd i x vs z e) hx
    · rw [wipeS_out sd i vs z] at e; exact ⟨z, e⟩
  refine ⟨W.keep, W.fresh, W.alive, W.disj, W.sub, ⟨fun i d e => ?_, fun i d e => ?_, fun i d e => ?_, fun i j d e a h1 h2 h3 h4 => ?_, fun i j d e h1 h2 => ?_, by rw [wipe_length, wipeS_len]; exact W.st.len⟩⟩
  · obtain ⟨n, e⟩ := back (by simp) e
    rw [wipe_out σ i vs n]
    exact W.st.val i d e
  · obtain ⟨n, e⟩ := back (by simp) e
    rw [wipe_out σ i vs n]
    exact W.st.own i d e
  · obtain ⟨n, e⟩ := back (by simp) e
    rw [wipe_out σ i vs n]
    exact W.st.io i d e
  · obtain ⟨n1, h1⟩ := back (by simp) h1
    obtain ⟨n2, h2⟩ := back (by simp) h2
    rw [wipe_out σ i vs n1] at h3
    rw [wipe_out σ j vs n2] at h4
    exact W.st.inj i j d e a h1 h2 h3 h4
  · exact W.st.ioj i j d e (back (by simp) h1).2 (back (by simp) h2).2
/-- the same with one more address that is hidden from outside -/
abbrev Wf.more (w : Wf) (p : Addr) : Wf := { w with O0 := p :: w.O0 }
theorem mem_more {p a : Addr} {L O : List Addr} : a ∈ L ++ p :: O ↔ a = p ∨ a ∈ L ++ O := by
  simp only [List.mem_append, List.mem_cons]
  constructor
  · rintro (h | h | h)
    · exact .inr (.inl h)
    · exact .inl h
    · exact .inr (.inr h)
  · rintro (h | h | h)
    · exact .inr (.inl h)
    · exact .inl h
    · exact .inr (.inr h)
theorem Wl.more (W : Wl K cl w L sd σ H) {p : Addr} {o : HO} (np : H p = none) : Same (hide (L ++ w.O0) H) (hide (L ++ (w.more p).O0) (upd H p o)) ∧ Wl K cl (w.more p) L sd σ (upd H p o) := by
  have hp := W.new_ne np
  have s := same_upd (o := o) np
  have sh : Same (hide (L ++ w.O0) H) (hide (L ++ (w.more p).O0) (upd H p o)) := fun b u e => by
    obtain ⟨n, e⟩ := hide_some.mp e
    refine hide_some.mpr ⟨fun z => ?_, s b u e⟩
    rcases mem_more.mp z with z | z
    · rw [z, np] at e; cases e
    · exact n z
  have W' := W.ext s
  have own : ∀ {a d}, OwnAt K cl w.H0 (L ++ w.O0) H a d → OwnAt K cl w.H0 (L ++ (w.more p).O0) (upd H p o) a d := fun {a d} h => by
    refine h.move ?_ sh
    cases q : H a with
    | none => exact absurd q h.some
    | some o => exact s a o q
  refine ⟨sh, W'.keep, W.fresh, fun a ha => ?_, fun a ha z => ?_, fun a ha => List.mem_cons_of_mem _ (W.sub a ha), ⟨fun i d e => ?_, fun i d e => ?_, fun i d e => ?_, W.st.inj, W.st.ioj, W.st.len⟩⟩
  · rcases mem_more.mp ha with z | z
    · rw [z, upd_same]; simp
    · exact W'.alive a z
  · (rcases List.mem_cons.mp z with z | z)
    · exact hp (List.mem_append_left _ (z ▸ ha))
    · exact W.disj a ha z
  · obtain ⟨v, h1, h2⟩ := W.st.val i d e
    exact ⟨v, h1, h2.mono sh⟩
  · obtain ⟨a, h1, h2, h3⟩ := W.st.own i d e
    exact ⟨a, h1, h2, own h3⟩
  · obtain ⟨h1, h2, h3⟩ := W.st.io i d e
    exact ⟨h1, h2, own h3⟩
theorem Wl.back {H1 : Hp} {s1 sE : S} {vs : List Nat} {p : Addr} (W' : Wl K cl (w.more p) L sE (wipe σ vs) H) (W1 : Wl K cl w L s1 σ H1) (np : H1 p = none) (sh : Same (hide (L ++ w.O0) H1) (hide (L ++ (w.more p).O0) H)) (ex : ∀ i ∈ vs, ∀ x, sE[i]? = some x → x = Sl.un)
    (L2 : List Addr) (h2 : ∀ a ∈ L2, a ∈ L ∨ a = p) (h3 : ∀ a ∈ L, a ∈ L2) : Wl K cl w L2 (restS s1 sE vs) σ H := by
  have sb : Same (hide (L ++ (w.more p).O0) H) (hide (L2 ++ w.O0) H) := hide_sub fun a ha => by
    rcases List.mem_append.mp ha with z | z
    · rcases h2 a z with z | z
      · exact mem_more.mpr (.inr (List.mem_append_left _ z))
      · exact mem_more.mpr (.inl z)
    · exact mem_more.mpr (.inr (List.mem_append_right _ z))
  have hp := W1.new_ne np
  have out : ∀ {i : Nat} {x : Sl}, i ∉ vs → (restS s1 sE vs)[i]? = some x → sE[i]? = some x := fun h e => by rwa [restS_out s1 sE _ vs h] at e
  refine ⟨W'.keep, fun a ha => ?_, fun a ha => ?_, fun a ha => ?_, W1.sub, ⟨fun i d e => ?_, fun i d e => ?_, fun i d e => ?_, fun i j d e a q1 q2 q3 q4 => ?_, fun i j d e q1 q2 => ?_, ?_⟩⟩
  · rcases h2 a ha with z | z
    · exact W1.fresh a z
    · subst z
      cases q : w.H0 a with
      | none => rfl
      | some o =>
        by_cases hI : a ∈ w.I
        · exact absurd (List.mem_append_right _ (W1.sub a hI)) hp
        · have := W1.keep a o hI q
          rw [np] at this; cases this
  · refine W'.alive a (mem_more.mpr ?_)
    rcases List.mem_append.mp ha with z | z
    · rcases h2 a z with z | z
      · exact .inr (List.mem_append_left _ z)
      · exact .inl z
    · exact .inr (List.mem_append_right _ z)
  · rcases h2 a ha with z | z
    · exact W1.disj a z
    · rw [z]; exact fun y => hp (List.mem_append_right _ y)
  · by_cases z : i ∈ vs
    · obtain ⟨v, q1, q2⟩ := W1.st.val i d (keepV_val (restS_in s1 sE i _ vs z e))
      exact ⟨v, q1, (q2.mono sh).mono sb⟩
    · obtain ⟨v, q1, q2⟩ := W'.st.val i d (out z e)
      rw [wipe_out σ i vs z] at q1
      exact ⟨v, q1, q2.mono sb⟩
  · by_cases z : i ∈ vs
    · exact (keepV_own (restS_in s1 sE i _ vs z e)).elim
    · obtain ⟨a, q1, q2, q3⟩ := W'.st.own i d (out z e)
      rw [wipe_out σ i vs z] at q1
      exact ⟨a, q1, h3 a q2, q3.move rfl sb⟩
  · by_cases z : i ∈ vs
    · exact (keepV_io (restS_in s1 sE i _ vs z e)).elim
    · obtain ⟨q1, q2, q3⟩ := W'.st.io i d (out z e)
      rw [wipe_out σ i vs z] at q1
      exact ⟨q1, q2, q3.move rfl sb⟩
  · have z1 : i ∉ vs := fun z => (keepV_own (restS_in s1 sE i _ vs z q1)).elim
    have z2 : j ∉ vs := fun z => (keepV_own (restS_in s1 sE j _ vs z q2)).elim
    refine W'.st.inj i j d e a (out z1 q1) (out z2 q2) ?_ ?_
    · rw [wipe_out σ i vs z1]; exact q3
    · rw [wipe_out σ j vs z2]; exact q4
  · have z1 : i ∉ vs := fun z => (keepV_io (restS_in s1 sE i _ vs z q1)).elim
    have z2 : j ∉ vs := fun z => (keepV_io (restS_in s1 sE j _ vs z q2)).elim
    exact W'.st.ioj i j d e (out z1 q1) (out z2 q2)
  · have := W'.st.len
    rw [wipe_length] at this
    rw [restS_len]; exact this
theorem t_nil : PTs X [] (TTof K cl wx tTrue) := ⟨fun pins s σ H Q I h => pts_nil.run pins s σ H Q I (by
  obtain ⟨w, L, sd, W, h⟩ := h
  exact h H .refl W)⟩
theorem t_one {c : Expr} {f : S → M (Bool × S)} (h : PT X c (TTof K cl wx f)) : PTs X [c] (TTof K cl wx f) := pts_one h
theorem Step.re {w' : Wf} {L' : List Addr} {H' : Hp} (s : Step w L H L' H') (e : w'.I = w.I) : Step w' L H L' H' := ⟨fun b o h1 h2 => s.keep b o h1 (by rw [← e]; exact h2), s.alv, s.new⟩
/-- the reading of a comprehension -/
theorem comp_read {fi : S → M (List D × S)} {vs ts : List Nat} {T : D → S → M S} {ft : S → M (Bool × S)} {fe : S → M (D × S)} (hts : ∀ i ∈ ts, i ∈ vs) :
    ∀ σ H Q, TFof K cl wx (dComp fi vs T ft fe) σ H Q → tLc (TIof K cl wx fi) (TGof K cl noW ts T) (TTof K cl noW ft) (TEof K cl noW fe) vs σ H Q := by
  rintro σ H Q ⟨w, L, sd, W, h⟩
  refine ⟨w, L, sd, W, ?_⟩
  unfold dComp at h
  match (fi sd : M (List D × S)), h with
  | none, h => exact h.elim
  | some (.ex _ _), h => exact h
  | some (.ok (ds, s1)), h =>
    intro J H1 st1 W1 it p np
    have h : PostF K cl wx w L σ H Q (if ds.length ≤ sizeLine then bd (nx (compL vs T ft fe ds (wipeS s1 vs))) fun q => ok (.lst q.1, restS s1 q.2 vs) else none) := h
    by_cases hz : ds.length ≤ sizeLine
    case neg => rw [if_neg hz] at h; exact h.elim
    rw [if_pos hz] at h
    generalize e0 : compL vs T ft fe ds (wipeS s1 vs) = m at h
    match m, h with
    | none, h => exact h.elim
    | some (.ex _ _), h => exact h.elim
    | some (.ok (ys, sE)), h =>
      obtain ⟨sh, Wm⟩ := W1.more (p := p) (o := .lst []) np
      have Wm0 := Wm.wiped vs
      have hpI : p ∉ w.I := fun z => W1.new_ne np (List.mem_append_right _ (W1.sub p z))
      have hpL : p ∉ L := fun z => W1.new_ne np (List.mem_append_left _ z)
      refine ⟨fun i m H => m = ds.length - i ∧ i ≤ ds.length ∧ ∃ acc accD s zs, Wl K cl (w.more p) L s (wipe σ vs) H ∧ Step w L H1 L H ∧ H p = some (.lst acc) ∧ RpA K cl (hide (L ++ (w.more p).O0) H) acc accD ∧ acc.length ≤ i ∧
        compL vs T ft fe (ds.drop i) s = ok (zs, sE) ∧ ys = accD ++ zs ∧ (∀ j ∈ vs, ∀ x, s[j]? = some x → x = Sl.un),
        ⟨ds.length, by omega, Nat.zero_le _, [], [], wipeS s1 vs, ys, Wm0, .of_same (same_upd np), upd_same, .nil, Nat.le_refl _, e0, rfl, fun j hj x e => wipeS_in s1 j x vs hj e⟩, ?_⟩
      rintro i m H2 ⟨rfl, hi, acc, accD, s, zs, Ws, stw, hp, ra, hl, ec, ey, hun⟩
      have shi : Same (hide (L ++ w.O0) H1) (hide (L ++ (w.more p).O0) H2) := fun b o z => by
        obtain ⟨n, z'⟩ := hide_some.mp (stw.seen W1.sub b o z)
        refine hide_some.mpr ⟨fun y => ?_, z'⟩
        rcases mem_more.mp y with y | y
        · rw [y] at z; have := hide_le _ _ z; rw [np] at this; cases this
        · exact n y
      by_cases hlt : i < ds.length
      · refine .inr ⟨it.go i _ H2 shi hlt, fun H' => ∃ acc accD s zs, Wl K cl (w.more p) L s (wipe σ vs) H' ∧ Step w L H1 L H' ∧ H' p = some (.lst acc) ∧ RpA K cl (hide (L ++ (w.more p).O0) H') acc accD ∧ acc.length ≤ i + 1 ∧
          compL vs T ft fe (ds.drop (i + 1)) s = ok (zs, sE) ∧ ys = accD ++ zs ∧ (∀ j ∈ vs, ∀ x, s[j]? = some x → x = Sl.un),
          fun H' q => ⟨ds.length - (i + 1), by omega, rfl, hlt, q⟩, fun x H3 hy => ?_⟩
        obtain ⟨sm, hx⟩ := it.yld i _ H2 x H3 shi Ws.alive hy
        have hx := hx ds[i] (List.getElem?_eq_getElem hlt)
        rw [List.drop_eq_getElem_cons hlt] at ec
        have W3 := Ws.ext sm
        have st3 : Step w L H1 L H3 := stw.trans (.of_same sm)
        have ra3 := ra.mono ((Step.of_same (w := w.more p) (L := L) sm).sn Ws)
        have hp3 := sm p _ hp
        refine ⟨w.more p, L, s, ds[i], W3, hx, ?_⟩
        have ec : bd (T ds[i] s) (fun s1 => bd (ft s1) fun p => if p.1 = true then bd (fe p.2) fun q => bd (compL vs T ft fe (ds.drop (i + 1)) (wipeS q.2 vs)) fun r => ok (q.1 :: r.1, r.2) else compL vs T ft fe (ds.drop (i + 1)) (wipeS p.2 vs)) = ok (zs, sE) := ec
        match (T ds[i] s : M S), ec with
        | none, ec => cases ec
        | some (.ex _ _), ec => cases ec
        | some (.ok s4), ec =>
          intro σ4 H4 st4 W4 k4
          have hw4 : wipe σ4 vs = wipe σ vs := by
            rw [wipe_eq k4 hts, wipe_wipe]
          refine ⟨by rw [hw4], w.more p, L, s4, W4, ?_⟩
          have st4' : Step w L H1 L H4 := st3.trans (st4.re rfl)
          have ec : bd (ft s4) (fun p => if p.1 = true then bd (fe p.2) fun q => bd (compL vs T ft fe (ds.drop (i + 1)) (wipeS q.2 vs)) fun r => ok (q.1 :: r.1, r.2) else compL vs T ft fe (ds.drop (i + 1)) (wipeS p.2 vs)) = ok (zs, sE) := ec
          have keepP : ∀ {Ha Hb : Hp}, Step (w.more p) L Ha L Hb → Ha p = some (.lst acc) → Hb p = some (.lst acc) := fun st e => st.keep p _ hpL (fun z => hpI z) e
          match (ft s4 : M (Bool × S)), ec with
          | none, ec => cases ec
          | some (.ex _ _), ec => cases ec
          | some (.ok (b, s5)), ec =>
            intro H5 st5 W5
            have st5' : Step w L H1 L H5 := st4'.trans (st5.re rfl)
            have hp5 := keepP (st4.trans st5) hp3
            have ra5 : RpA K cl (hide (L ++ (w.more p).O0) H5) acc accD := ra3.mono ((st4.trans st5).seen Wm.sub)
            cases b with
            | false =>
              refine iteF ?_
              have ec : compL vs T ft fe (ds.drop (i + 1)) (wipeS s5 vs) = ok (zs, sE) := ec
              have W6 := W5.wiped vs
              rw [hw4] at W6
              exact ⟨acc, accD, wipeS s5 vs, zs, W6, st5', hp5, ra5, by omega, ec, ey, fun j hj x e => wipeS_in s5 j x vs hj e⟩
            | true =>
              refine iteT ⟨w.more p, L, s5, W5, ?_⟩
              have ec : bd (fe s5) (fun q => bd (compL vs T ft fe (ds.drop (i + 1)) (wipeS q.2 vs)) fun r => ok (q.1 :: r.1, r.2)) = ok (zs, sE) := ec
              match (fe s5 : M (D × S)), ec with
              | none, ec => cases ec
              | some (.ex _ _), ec => cases ec
              | some (.ok (y, s6)), ec =>
                intro v H6 st6 W6 rv
                have hp6 := keepP st6 hp5
                have ra6 : RpA K cl (hide (L ++ (w.more p).O0) H6) acc accD := ra5.mono (st6.seen Wm.sub)
                refine ⟨acc, hp6, by omega, ?_⟩
                have ec : bd (compL vs T ft fe (ds.drop (i + 1)) (wipeS s6 vs)) (fun r => ok (y :: r.1, r.2)) = ok (zs, sE) := ec
                generalize e7 : compL vs T ft fe (ds.drop (i + 1)) (wipeS s6 vs) = m7 at ec
                match m7, ec with
                | none, ec => cases ec
                | some (.ex _ _), ec => cases ec
                | some (.ok (zs', sE')), ec =>
                  cases ec
                  -- the list grows; it is hidden
                  have hne : ∀ a ∈ L, a ≠ p := fun a ha e => hpL (e ▸ ha)
                  have pin : p ∈ L ++ (w.more p).O0 := mem_more.mpr (.inl rfl)
                  have hh : hide (L ++ (w.more p).O0) (upd H6 p (.lst (acc ++ [v]))) = hide (L ++ (w.more p).O0) H6 := by
                    funext b
                    unfold hide
                    by_cases z : b ∈ L ++ (w.more p).O0
                    · rw [if_pos z, if_pos z]
                    · rw [if_neg z, if_neg z, upd_ne]
                      intro e
                      exact z (e ▸ pin)
                  have W7 := W6.wiped vs
                  rw [hw4] at W7
                  have own : ∀ {a d}, a ≠ p → OwnAt K cl w.H0 (L ++ (w.more p).O0) H6 a d → OwnAt K cl w.H0 (L ++ (w.more p).O0) (upd H6 p (.lst (acc ++ [v]))) a d := fun {a d} n q => q.move (upd_ne n) (by rw [hh]; exact Same.refl _)
                  have W8 : Wl K cl (w.more p) L (wipeS s6 vs) (wipe σ vs) (upd H6 p (.lst (acc ++ [v]))) := by
                    refine ⟨fun b o n e => ?_, W7.fresh, fun a ha => ?_, W7.disj, W7.sub, ⟨fun i d e => ?_, fun i d e => ?_, fun i d e => ?_, W7.st.inj, W7.st.ioj, W7.st.len⟩⟩
                    · by_cases z : b = p
                      · subst z
                        have := W1.keep b o n e
                        rw [np] at this; cases this
                      · rw [upd_ne z]; exact W7.keep b o n e
                    · by_cases z : a = p
                      · rw [z, upd_same]; simp
                      · rw [upd_ne z]; exact W7.alive a ha
                    · obtain ⟨u, q1, q2⟩ := W7.st.val i d e
                      exact ⟨u, q1, by rw [hh]; exact q2⟩
                    · obtain ⟨a, q1, q2, q3⟩ := W7.st.own i d e
                      exact ⟨a, q1, q2, own (hne a q2) q3⟩
                    · obtain ⟨q1, q2, q3⟩ := W7.st.io i d e
                      exact ⟨q1, q2, own (fun z => hpI (z ▸ q2)) q3⟩
                  refine ⟨acc ++ [v], accD ++ [y], wipeS s6 vs, zs', W8, ?_, upd_same, ?_, by rw [List.length_append]; simp; omega, e7, ?_, fun j hj x e => wipeS_in s6 j x vs hj e⟩
                  · have s6' : Step w L H1 L H6 := st5'.trans (st6.re rfl)
                    refine ⟨fun b o n1 n2 e => ?_, fun b e => ?_, s6'.new⟩
                    · rw [upd_ne (ne_of_none e np)]; exact s6'.keep b o n1 n2 e
                    · by_cases z : b = p
                      · rw [z, upd_same]; simp
                      · rw [upd_ne z]; exact s6'.alv b e
                  · rw [hh]; exact ra6.append (.cons rv .nil)
                  · rw [ey, List.append_assoc]; rfl
      · have ei : i = ds.length := by omega
        subst ei
        rw [List.drop_length] at ec
        have ec : (ok (([] : List D), s) : M (List D × S)) = ok (zs, sE) := ec
        cases ec
        rw [List.append_nil] at ey
        subst ey
        refine .inl ⟨it.stop _ _ H2 shi (Nat.le_refl _), ?_⟩
        have nw : ∀ a ∈ p :: L, a ∈ L ∨ H a = none := fun a ha => by
          rcases List.mem_cons.mp ha with z | z
          · refine .inr ?_
            cases q : H a with
            | none => rfl
            | some o => exact absurd (z ▸ np) (st1.alv a (by rw [q]; simp))
          · exact .inl z
        have sT := st1.trans stw
        refine h p H2 ⟨sT.keep, sT.alv, nw⟩ (W1.new_ne np) ?_ ?_ ⟨acc, hp, ra.mono (hide_sub fun a ha => ?_)⟩
        · exact Ws.back W1 np shi hun L (fun a z => .inl z) (fun a z => z)
        · exact Ws.back W1 np shi hun (p :: L) (fun a z => (List.mem_cons.mp z).symm) (fun a z => List.mem_cons_of_mem _ z)
        · refine mem_more.mpr ?_
          rcases List.mem_cons.mp ha with z | z
          · exact .inl z
          · exact .inr z
/-- [elt for tg in iter ..] -/
theorem f_comp {elt tg iter : Expr} {ifs : List Expr} {scope : Scope} {own : List (Str × Nat)} {fi : S → M (List D × S)} {ts : List Nat} {T : D → S → M S} {ft : S → M (Bool × S)} {fe : S → M (D × S)}
    (hc : X.calm = true) (hN : X.N.Nodup) (hi : PI X tg iter (TIof K cl wx fi)) (ok : BlkOk X.N X.env.scope scope own)
    (hg : ∀ (s : Shared) (H : Hp) (C : Addr) (cls : List (Str × Addr)) (fp : List Addr), PG (X.blk s H scope (compEnvC scope cls C X.env) fp) tg (TGof K cl noW ts T))
    (ht : ∀ (s : Shared) (H : Hp) (C : Addr) (cls : List (Str × Addr)) (fp : List Addr), PTs (X.blk s H scope (compEnvC scope cls C X.env) fp) ifs (TTof K cl noW ft))
    (he : ∀ (s : Shared) (H : Hp) (C : Addr) (cls : List (Str × Addr)) (fp : List Addr), PE (X.blk s H scope (compEnvC scope cls C X.env) fp) elt (TEof K cl noW fe))
    (hts : ∀ i ∈ ts, i ∈ own.map (·.2)) (hs : ∀ x, foldedSetIterable iter X.env x = pure x := by intro _; rfl) : PE X (.ListComp elt [⟨tg, iter, ifs, 0⟩] scope pos) (TFof K cl wx (dComp fi (own.map (·.2)) T ft fe)) :=
  iE (pe_lc hc hN hi ok hg ht he hs) (comp_read hts)
end
end Dt
namespace Dt
open L2 PySem PySem.Spec PyProof.Rows
/-! ### statements -/
inductive Out where
  | nx (s : S)
  | bk (s : S)
  | ct (s : S)
  | rt (d : D) (s : S)
  | rf (d : D) (s : S)
def PostS (K : PySem.W.Frag) (cl : Cl) (wx : WX) (ts : List Nat) (w : Wf) (L : List Addr) (σ : L2.St) (H : Hp) (E : Ends) : M Out → Prop
  | some (.ok (.nx s')) => ∀ L' σ' H', Step w L H L' H' → Wl K cl w L' s' σ' H' → Agree ts σ σ' → E.nx σ' H'
  | some (.ok (.bk s')) => ∀ L' σ' H', Step w L H L' H' → Wl K cl w L' s' σ' H' → Agree ts σ σ' → E.bk σ' H'
  | some (.ok (.ct s')) => ∀ L' σ' H', Step w L H L' H' → Wl K cl w L' s' σ' H' → Agree ts σ σ' → E.ct σ' H'
  | some (.ok (.rt d s')) => ∀ L' σ' H' v, Step w L H L' H' → Wl K cl w L' s' σ' H' → Rp K cl (hide w.O0 H') v d → E.rt v H'
  | some (.ok (.rf d s')) => ∀ L' σ' H' p, Step w L H L' H' → Wl K cl w L' s' σ' H' → w.H0 p = none → p ∉ w.O0 → OwnAt K cl w.H0 (p :: w.O0) H' p d → E.rt (.ref p) H'
  | some (.ex e s') => Wish K cl wx w e s'
  | none => False
def TSof (K : PySem.W.Frag) (cl : Cl) (wx : WX) (ts : List Nat) (f : S → M Out) : TS := fun E σ H => ∃ w L sd, Wl K cl w L sd σ H ∧ PostS K cl wx ts w L σ H E (f sd)
section
variable {K : PySem.W.Frag} {cl : Cl} {wx : WX} {w : Wf} {L L1 : List Addr} {σ σ1 : L2.St} {H H1 : Hp} {E E' : Ends} {ts us : List Nat} {s1 : S}
theorem botS : Bot K cl wx w (PostS K cl wx ts w L σ H E) := ⟨fun h => h, fun _ _ h => h⟩
theorem Agree.refl : Agree ts σ σ := ⟨rfl, fun _ _ => rfl⟩
theorem Agree.trans {σ2 : L2.St} (a : Agree ts σ σ1) (b : Agree us σ1 σ2) : Agree (ts ++ us) σ σ2 :=
  ⟨b.len.trans a.len, fun i hi => (b.out i fun z => hi (List.mem_append_right _ z)).trans (a.out i fun z => hi (List.mem_append_left _ z))⟩
theorem Agree.le (a : Agree ts σ σ1) (h : ∀ i ∈ ts, i ∈ us) : Agree us σ σ1 := ⟨a.len, fun i hi => a.out i fun z => hi (h i z)⟩
/-- the statement's end, seen from further back -/
theorem PostS.from {m : M Out} (h : PostS K cl wx us w L σ H E m) (st : Step w L H L1 H1) (ag : ∀ σ', Agree ts σ1 σ' → Agree us σ σ') : PostS K cl wx ts w L1 σ1 H1 E m := by
  match m, h with
  | none, h => exact h.elim
  | some (.ex _ _), h => exact h
  | some (.ok (.nx s)), h => exact fun L' σ' H' a b c => h L' σ' H' (st.trans a) b (ag σ' c)
  | some (.ok (.bk s)), h => exact fun L' σ' H' a b c => h L' σ' H' (st.trans a) b (ag σ' c)
  | some (.ok (.ct s)), h => exact fun L' σ' H' a b c => h L' σ' H' (st.trans a) b (ag σ' c)
  | some (.ok (.rt d s)), h => exact fun L' σ' H' v a b c => h L' σ' H' v (st.trans a) b c
  | some (.ok (.rf d s)), h => exact fun L' σ' H' v a b c d e => h L' σ' H' v (st.trans a) b c d e
end
/-! ### blocks -/
def sNil : S → M Out := fun s => ok (.nx s)
def sSeq (F G : S → M Out) : S → M Out := fun s => bd (F s) fun o => match o with
  | .nx s1 => G s1
  | o => ok o
def sBreak : S → M Out := fun s => ok (.bk s)
def sCont : S → M Out := fun s => ok (.ct s)
def sNever : S → M Out := fun _ => none
def sIf (c : S → M (Bool × S)) (F G : S → M Out) : S → M Out := fun s => bd (c s) fun p => if p.1 = true then F p.2 else G p.2
def sSet (i : Nat) (f : S → M (D × S)) : S → M Out := fun s => bd (f s) fun p => ok (.nx (p.2.set i (.val p.1)))
def sOwn (i : Nat) (f : S → M (D × S)) : S → M Out := fun s => bd (f s) fun p => ok (.nx (p.2.set i (.own p.1)))
def sAsg (f : S → M (D × S)) (T : D → S → M S) : S → M Out := fun s => bd (f s) fun p => bd (T p.1 p.2) fun s1 => ok (.nx s1)
def sPar (i j : Nat) (f : S → M (List D × S)) : S → M Out := fun s => bd (f s) fun p => match p.1 with
  | [d, e] => ok (.nx ((p.2.set i (.val d)).set j (.val e)))
  | _ => none
def sPar3 (i j l : Nat) (f : S → M (List D × S)) : S → M Out := fun s => bd (f s) fun p => match p.1 with
  | [d, e, g] => ok (.nx (((p.2.set i (.val d)).set j (.val e)).set l (.val g)))
  | _ => none
def sExpr (f : S → M (D × S)) : S → M Out := fun s => bd (f s) fun p => ok (.nx p.2)
def sRet (f : S → M (D × S)) : S → M Out := fun s => bd (f s) fun p => ok (.rt p.1 p.2)
def sRetF (f : S → M (D × S)) : S → M Out := fun s => bd (f s) fun p => ok (.rf p.1 p.2)
def sRetN : S → M Out := fun s => ok (.rt .non s)
def sRetO (i : Nat) : S → M Out := fun s => match s[i]? with
  | some (.own d) => ok (.rf d s)
  | _ => none
def sAugI (i : Nat) (f : S → M (D × S)) (g : Op2) : S → M Out := fun s => bd (dVar i s) fun q => bd (f q.2) fun p => bd (g q.1 p.1) fun r => ok (.nx (p.2.set i (.val r)))
section
variable {X : Cx} {K : PySem.W.Frag} {cl : Cl} {wx : WX} {pos : Pos} {st : Stmt} {rest a b : List Stmt} {ts us : List Nat} {F G : S → M Out} {c : S → M (Bool × S)} {f : S → M (D × S)} {fr : S → M (List D × S)} {e ce : Expr}
theorem s_nil : PSs X [] (TSof K cl wx [] sNil) := by
  refine iSs pss_nil ?_
  rintro E σ H ⟨w, L, sd, W, h⟩
  exact h L σ H .refl W .refl
theorem seq_read {t u : TS} {E : Ends} {σ : L2.St} {H : Hp} (ht : t = TSof K cl wx ts F) (hu : u = TSof K cl wx us G) (h : TSof K cl wx (ts ++ us) (sSeq F G) E σ H) : tSeq t u E σ H := by
  subst ht hu
  obtain ⟨w, L, sd, W, h⟩ := h
  refine ⟨w, L, sd, W, ?_⟩
  have h : PostS K cl wx (ts ++ us) w L σ H E (bd (F sd) fun o => match o with
    | .nx s1 => G s1
    | o => ok o) := h
  match (F sd : M Out), h with
  | none, h => exact h.elim
  | some (.ex _ _), h => exact h
  | some (.ok (.nx s)), h => exact fun L' σ' H' a b c => ⟨w, L', s, b, PostS.from h a fun σ2 d => c.trans d⟩
  | some (.ok (.bk s)), h => exact fun L' σ' H' a b c => h L' σ' H' a b (c.le fun i hi => List.mem_append_left _ hi)
  | some (.ok (.ct s)), h => exact fun L' σ' H' a b c => h L' σ' H' a b (c.le fun i hi => List.mem_append_left _ hi)
  | some (.ok (.rt d s)), h => exact h
  | some (.ok (.rf d s)), h => exact h
theorem s_cons (h1 : PS X st (TSof K cl wx ts F)) (h2 : PSs X rest (TSof K cl wx us G)) : PSs X (st :: rest) (TSof K cl wx (ts ++ us) (sSeq F G)) :=
  iSs (pss_cons h1 h2) fun E σ H h => seq_read rfl rfl h
theorem s_one (h1 : PS X st (TSof K cl wx ts F)) : PSs X [st] (TSof K cl wx ts F) := pss_one h1
theorem s_pass : PS X (.Pass pos) (TSof K cl wx [] sNil) := by
  refine iS ps_pass ?_
  rintro E σ H ⟨w, L, sd, W, h⟩
  exact h L σ H .refl W .refl
theorem s_break : PS X (.Break pos) (TSof K cl wx [] sBreak) := by
  refine iS ps_break ?_
  rintro E σ H ⟨w, L, sd, W, h⟩
  exact h L σ H .refl W .refl
theorem s_cont : PS X (.Continue pos) (TSof K cl wx [] sCont) := by
  refine iS ps_continue ?_
  rintro E σ H ⟨w, L, sd, W, h⟩
  exact h L σ H .refl W .refl
theorem s_never : PS X st (TSof K cl wx [] sNever) := by
  refine iS ps_never ?_
  rintro E σ H ⟨w, L, sd, W, h⟩
  exact h
theorem s_if (hc : PT X ce (TTof K cl wx c)) (ha : PSs X a (TSof K cl wx ts F)) (hb : PSs X b (TSof K cl wx us G)) : PS X (.If ce a b pos) (TSof K cl wx (ts ++ us) (sIf c F G)) := by
  refine iS (ps_if hc ha hb) ?_
  rintro E σ H ⟨w, L, sd, W, h⟩
  refine ⟨w, L, sd, W, PostT.bd botS h fun r s1 h H1 st1 W1 => ?_⟩
  cases r with
  | true => exact iteT ⟨w, L, s1, W1, PostS.from h st1 fun σ' a => a.le fun i hi => List.mem_append_left _ hi⟩
  | false => exact iteF ⟨w, L, s1, W1, PostS.from h st1 fun σ' a => a.le fun i hi => List.mem_append_right _ hi⟩
theorem agree_set {σ : L2.St} {i : Nat} {x : Option V} : Agree [i] σ (σ.set i x) := ⟨by rw [List.length_set], fun j hj => by
  rw [List.getElem?_set_ne]
  intro e
  exact hj (by simp [e])⟩
theorem s_set (i : Nat) {x : Str} {pos' : Pos} (hN : X.N.Nodup) (he : PE X e (TEof K cl wx f)) (hi : X.N[i]? = some x := by rfl) (hx : Loc X.env.scope x := by first | exact Or.inl rfl | exact Or.inr rfl) (hs : swapsWith e (some (.Name x pos')) pos.line X.env = pure false := by rfl)
    (hf : X.fn x = true ∨ X.env.scope.names.lookup x = some .local := by first | exact .inl rfl | exact .inr rfl) : PS X (.Assign [.Name x pos'] e pos) (TSof K cl wx [i] (sSet i f)) := by
  refine iS (ps_set hN hi hx he hs hf) ?_
  rintro E σ H ⟨w, L, sd, W, h⟩
  refine ⟨w, L, sd, W, PostE.bd botS h fun r s1 h v H1 st1 W1 rr => ?_⟩
  exact h L _ H1 st1 (W1.set rr) agree_set
/-- a slot takes a new list of the def's own -/
theorem Wl.setOwn {w : Wf} {L : List Addr} {sd : S} {σ : L2.St} {H : Hp} {p : Addr} {d : D} (i : Nat) (W1 : Wl K cl w L sd σ H) (np : p ∉ L ++ w.O0) (W : Wl K cl w (p :: L) sd σ H) (r : OwnAt K cl w.H0 (p :: L ++ w.O0) H p d) : Wl K cl w (p :: L) (sd.set i (.own d)) (σ.set i (some (.ref p))) H := by
  have get : ∀ {j : Nat} {x : Sl}, j ≠ i → (sd.set i (.own d))[j]? = some x → sd[j]? = some x := fun h e => by rwa [List.getElem?_set_ne (Ne.symm h)] at e
  have getv : ∀ {j : Nat} {x : Option V}, j ≠ i → σ[j]? = some x → (σ.set i (some (.ref p)))[j]? = some x := fun h e => by rwa [List.getElem?_set_ne (Ne.symm h)]
  have gotv : ∀ {j : Nat} {x : Option V}, j ≠ i → (σ.set i (some (.ref p)))[j]? = some x → σ[j]? = some x := fun h e => by rwa [List.getElem?_set_ne (Ne.symm h)] at e
  have nown : ∀ {x : Sl}, (sd.set i (.own d))[i]? = some x → x = .own d ∧ i < sd.length := fun {x} e => by
    by_cases h : i < sd.length
    · rw [List.getElem?_set_self h] at e; cases e; exact ⟨rfl, h⟩
    · rw [List.getElem?_eq_none (by simpa using h)] at e; cases e
  have other : ∀ {j : Nat} {e : D}, sd[j]? = some (.own e) → σ[j]? = some (some (.ref p)) → False := fun {j e} h1 h2 => by
    obtain ⟨a, q1, q2, _⟩ := W1.st.own j e h1
    rw [h2] at q1
    cases q1
    exact np (List.mem_append_left _ q2)
  refine ⟨W.keep, W.fresh, W.alive, W.disj, W.sub, ⟨fun j e he => ?_, fun j e he => ?_, fun j e he => ?_, fun j k e f a he hf h1 h2 => ?_, fun j k e f he hf => ?_, by simpa using W.st.len⟩⟩
  · by_cases h : j = i
    · subst h; cases (nown he).1
    · obtain ⟨u, h1, h2⟩ := W.st.val j e (get h he)
      exact ⟨u, getv h h1, h2⟩
  · by_cases h : j = i
    · subst h
      obtain ⟨q, hl⟩ := nown he
      cases q
      exact ⟨p, List.getElem?_set_self (by rw [W.st.len]; exact hl), List.mem_cons_self, r⟩
    · obtain ⟨a, h1, h2, h3⟩ := W.st.own j e (get h he)
      exact ⟨a, getv h h1, h2, h3⟩
  · by_cases h : j = i
    · subst h; cases (nown he).1
    · obtain ⟨h1, h2, h3⟩ := W.st.io j e (get h he)
      exact ⟨getv h h1, h2, h3⟩
  · by_cases hj : j = i
    · by_cases hk : k = i
      · rw [hj, hk]
      · subst hj
        have hl := (nown he).2
        rw [List.getElem?_set_self (by rw [W.st.len]; exact hl)] at h1
        cases h1
        exact (other (get hk hf) (gotv hk h2)).elim
    · by_cases hk : k = i
      · subst hk
        have hl := (nown hf).2
        rw [List.getElem?_set_self (by rw [W.st.len]; exact hl)] at h2
        cases h2
        exact (other (get hj he) (gotv hj h1)).elim
      · exact W.st.inj j k e f a (get hj he) (get hk hf) (gotv hj h1) (gotv hk h2)
  · by_cases hj : j = i
    · subst hj; cases (nown he).1
    · by_cases hk : k = i
      · subst hk; cases (nown hf).1
      · exact W.st.ioj j k e f (get hj he) (get hk hf)
theorem s_own (i : Nat) {x : Str} {pos' : Pos} (hN : X.N.Nodup) (he : PE X e (TFof K cl wx f)) (hi : X.N[i]? = some x := by rfl) (hx : Loc X.env.scope x := by first | exact Or.inl rfl | exact Or.inr rfl) (hs : swapsWith e (some (.Name x pos')) pos.line X.env = pure false := by rfl)
    (hf : X.fn x = true ∨ X.env.scope.names.lookup x = some .local := by first | exact .inl rfl | exact .inr rfl) : PS X (.Assign [.Name x pos'] e pos) (TSof K cl wx [i] (sOwn i f)) := by
  refine iS (ps_set hN hi hx he hs hf) ?_
  rintro E σ H ⟨w, L, sd, W, h⟩
  refine ⟨w, L, sd, W, PostF.bd botS h fun r s1 h p H1 st1 np W1 W2 ho => ?_⟩
  exact h (p :: L) _ H1 st1 (W1.setOwn i np W2 (ho.old fun _ z => W.old z)) agree_set
theorem s_asg {tg : Expr} {T : D → S → M S} [nt : NoX T] (he : PE X e (TEof K cl wx f)) (hg : PG X tg (TGof K cl wx ts T)) (hs : swapsWithSole [tg] e pos.line X.env = pure false := by rfl) (hw : swappedStores [tg] e X.env = pure none := by rfl)
    (h1 : (assignEach [tg] X.env).map (·.2) = [assign tg X.env] := by rfl) : PS X (.Assign [tg] e pos) (TSof K cl wx ts (sAsg f T)) := by
  refine iS (ps_asg he hg hs hw h1) ?_
  rintro E σ H ⟨w, L, sd, W, h⟩
  refine ⟨w, L, sd, W, PostE.bd botS h fun r s1 h v H1 st1 W1 rr => ?_⟩
  refine ⟨w, L, s1, r, W1, rr, ?_⟩
  dsimp only at h
  generalize e0 : T r s1 = m at h
  match m, h with
  | none, h => exact h.elim
  | some (.ex _ _), h => exact (nt.no _ _ _ _ e0).elim
  | some (.ok s2), h => exact fun σ2 H2 st2 W2 ag => h L σ2 H2 (st1.trans st2) W2 ag
theorem s_par {i j : Nat} {x y : Str} {a b : Expr} {px py pt : Pos} {kt k2 pt2} (hc : X.calm = true) (hN : X.N.Nodup) (ha : PA X [a, b] (TAof K cl wx fr)) (hi : X.N[i]? = some x := by rfl) (hj : X.N[j]? = some y := by rfl) (hij : i ≠ j := by decide)
    (hx : X.env.scope.names.lookup x = some .local := by rfl) (hy : X.env.scope.names.lookup y = some .local := by rfl)
    (hw : swappedStores [.Tuple [.Name x px, .Name y py] kt pt] (.Tuple [a, b] k2 pt2) X.env = pure (some [x, y]) := by rfl)
    (hs : swapsWithSole [.Tuple [.Name x px, .Name y py] kt pt]
          (.Tuple [a, b] k2 pt2) pos.line X.env = pure false := by rfl) :
    PS X (.Assign [.Tuple [.Name x px, .Name y py] kt pt] (.Tuple [a, b] k2 pt2) pos) (TSof K cl wx ([i] ++ [j]) (sPar i j fr)) := by
  refine iS (ps_par hc hN hi hj hij hx hy ha hw hs) ?_
  rintro E σ H ⟨w, L, sd, W, h⟩
  refine ⟨w, L, sd, W, PostA.bd botS h fun rs s1 h vs H1 st1 W1 rrs => ?_⟩
  dsimp only at h
  split at h
  · obtain ⟨v, u, rfl, r1, r2⟩ := rrs.two
    exact ⟨v, u, rfl, h L _ H1 st1 ((W1.set r1).set r2) (agree_set.trans agree_set)⟩
  · exact h.elim
theorem s_par3 {i j l : Nat} {x y z : Str} {a b c : Expr} {px py pz pt : Pos} {kt k2 pt2} (hc : X.calm = true) (hN : X.N.Nodup) (ha : PA X [a, b, c] (TAof K cl wx fr)) (hi : X.N[i]? = some x := by rfl) (hj : X.N[j]? = some y := by rfl) (hl : X.N[l]? = some z := by rfl) (hij : i ≠ j := by decide) (hil : i ≠ l := by decide) (hjl : j ≠ l := by decide)
    (hx : X.env.scope.names.lookup x = some .local := by rfl) (hy : X.env.scope.names.lookup y = some .local := by rfl) (hz : X.env.scope.names.lookup z = some .local := by rfl)
    (hw : swappedStores [.Tuple [.Name x px, .Name y py, .Name z pz] kt pt] (.Tuple [a, b, c] k2 pt2) X.env = pure (some [x, y, z]) := by rfl)
    (hs : swapsWithSole [.Tuple [.Name x px, .Name y py, .Name z pz] kt pt]
          (.Tuple [a, b, c] k2 pt2) pos.line X.env = pure false := by rfl) :
    PS X (.Assign [.Tuple [.Name x px, .Name y py, .Name z pz] kt pt] (.Tuple [a, b, c] k2 pt2) pos) (TSof K cl wx (([i] ++ [j]) ++ [l]) (sPar3 i j l fr)) := by
  refine iS (ps_par3 hc hN hi hj hl hij hil hjl hx hy hz ha hw hs) ?_
  rintro E σ H ⟨w, L, sd, W, h⟩
  refine ⟨w, L, sd, W, PostA.bd botS h fun rs s1 h vs H1 st1 W1 rrs => ?_⟩
  dsimp only at h
  split at h
  · cases rrs with
    | cons r1 rr =>
      obtain ⟨v, u, rfl, r2, r3⟩ := rr.two
      exact ⟨_, v, u, rfl, h L _ H1 st1 (((W1.set r1).set r2).set r3) ((agree_set.trans agree_set).trans agree_set)⟩
  · exact h.elim
theorem s_expr (he : PE X e (TEof K cl wx f)) (hs : swapsWith e none pos.line X.env = pure false := by rfl) : PS X (.Expr e pos) (TSof K cl wx [] (sExpr f)) := by
  refine iS (ps_expr he hs) ?_
  rintro E σ H ⟨w, L, sd, W, h⟩
  refine ⟨w, L, sd, W, PostE.bd botS h fun r s1 h v H1 st1 W1 rr => ?_⟩
  exact h L σ H1 st1 W1 .refl
theorem s_ret (he : PE X e (TEof K cl wx f)) : PS X (.Return (some e) pos) (TSof K cl wx [] (sRet f)) := by
  refine iS (ps_ret he) ?_
  rintro E σ H ⟨w, L, sd, W, h⟩
  refine ⟨w, L, sd, W, PostE.bd botS h fun r s1 h v H1 st1 W1 rr => ?_⟩
  exact h L σ H1 v st1 W1 (rr.mono W1.seen)
theorem s_retF (he : PE X e (TFof K cl wx f)) : PS X (.Return (some e) pos) (TSof K cl wx [] (sRetF f)) := by
  refine iS (ps_ret he) ?_
  rintro E σ H ⟨w, L, sd, W, h⟩
  refine ⟨w, L, sd, W, PostF.bd botS h fun r s1 h p H1 st1 np W1 W2 ho => ?_⟩
  refine h (p :: L) σ H1 p st1 W2 (W2.fresh p List.mem_cons_self) (fun z => np (List.mem_append_right _ z)) ((ho.old fun _ z => W.old z).move rfl (hide_sub fun a ha => ?_))
  rcases List.mem_cons.mp ha with z | z
  · rw [z]; exact List.mem_cons_self
  · exact List.mem_cons_of_mem _ (List.mem_append_right _ z)
theorem s_retO (i : Nat) {x : Str} {pos' : Pos} (hN : X.N[i]? = some x := by rfl) (hv : Vis X.env.scope x := by first | exact Or.inl rfl | exact Or.inr (Or.inl rfl) | exact Or.inr (Or.inr rfl))
    (hd : (x == ("__debug__" : Str)) = false := by decide) (hcd : (x == ("__classdict__" : Str)) = false := by decide) : PS X (.Return (some (.Name x pos')) pos) (TSof K cl wx [] (sRetO i)) := by
  refine iS (ps_ret (pe_var hN hv hd hcd)) ?_
  rintro E σ H ⟨w, L, sd, W, h⟩
  unfold sRetO at h
  split at h
  · next d e =>
    obtain ⟨a, h1, h2, h3⟩ := W.st.own i d e
    refine ⟨_, h1, h L σ H a .refl W (W.fresh a h2) (W.disj a h2) (h3.move rfl (hide_sub fun b hb => ?_))⟩
    (rcases List.mem_cons.mp hb with z | z)
    · rw [z]; exact List.mem_append_left _ h2
    · exact List.mem_append_right _ z
  · exact h.elim
theorem s_retN : PS X (.Return none pos) (TSof K cl wx [] sRetN) := by
  refine iS ps_retN ?_
  rintro E σ H ⟨w, L, sd, W, h⟩
  exact h L σ H .non .refl W .non
/-- x op= e by a rule of two values -/
theorem s_aug (i : Nat) {x : Str} {op : Operator} {g : Op2} {pos' : Pos} (hN : X.N.Nodup) (ho : OpK X K cl (inplaceOp op) g) (he : PE X e (TEof K cl wx f)) (hi : X.N[i]? = some x := by rfl) (hx : Loc X.env.scope x := by first | exact Or.inl rfl | exact Or.inr rfl)
    (hf : X.fn x = true ∨ X.env.scope.names.lookup x = some .local := by first | exact .inl rfl | exact .inr rfl) : PS X (.AugAssign (.Name x pos') op e pos) (TSof K cl wx [i] (sAugI i f g)) := by
  obtain ⟨r, o1, o2⟩ := ho.it
  have ip : PIp X op (fun x y H Q => r x y H Q) := fun pins s σ H x y v u Q I r1 r2 h => o1 pins s σ H x y v u Q I r1 r2 h
  refine iS (ps_aug hN hi hx he ip hf) ?_
  rintro E σ H ⟨w, L, sd, W, h⟩
  unfold sAugI at h
  generalize e0 : dVar i sd = m at h
  unfold dVar at e0
  split at e0
  · next d e1 =>
    subst e0
    obtain ⟨v, h1, h2⟩ := W.st.val i d e1
    have h : PostS K cl wx [i] w L σ H E (bd (f sd) fun p => bd (g d p.1) fun r => ok (.nx (p.2.set i (.val r)))) := h
    refine ⟨v, h1, w, L, sd, W, PostE.bd botS h fun rd s1 h u H1 st1 W1 rr => ?_⟩
    refine o2 (L ++ w.O0) H1 v u d rd _ W1.alive (h2.mono (st1.sn W1)) rr ?_
    dsimp only at h
    match (g d rd : M D), h with
    | none, h => exact h.elim
    | some (.ex _ _), h => exact True.intro
    | some (.ok r2), h => exact fun z H3 sm rz => h L _ H3 (st1.trans (.of_same sm)) ((W1.ext sm).set rz) agree_set
  · subst e0; exact h.elim
end
end Dt
namespace Dt
open L2 PySem PySem.Spec PyProof.Rows
/-! ### while -/
def whileN (c : S → M (Bool × S)) (F : S → M Out) : Nat → S → M Out
  | 0, _ => none
  | n + 1, s => bd (c s) fun p => if p.1 = true then bd (F p.2) fun o => match o with
      | .nx s1 => whileN c F n s1
      | .ct s1 => whileN c F n s1
      | .bk s1 => ok (.nx s1)
      | o => ok o
    else ok (.nx p.2)
open Classical in
noncomputable def sWhile (c : S → M (Bool × S)) (F : S → M Out) : S → M Out := fun s => if h : ∃ n r, whileN c F n s = some r then some (choose (choose_spec h)) else none
theorem whileN_up {c : S → M (Bool × S)} {F : S → M Out} : ∀ {n : Nat} {s : S} {r : Rs Out}, whileN c F n s = some r → whileN c F (n + 1) s = some r
  | 0, _, _, h => by cases h
  | n + 1, s, r, h => by
    rw [whileN] at h ⊢
    match (c s : M (Bool × S)), h with
    | none, h => cases h
    | some (.ex _ _), h => exact h
    | some (.ok (b, s1)), h =>
      have h : (if b = true then bd (F s1) fun o => match o with
        | .nx s1 => whileN c F n s1
        | .ct s1 => whileN c F n s1
        | .bk s1 => ok (.nx s1)
        | o => ok o
      else ok (.nx s1)) = some r := h
      show (if b = true then bd (F s1) fun o => match o with
        | .nx s1 => whileN c F (n + 1) s1
        | .ct s1 => whileN c F (n + 1) s1
        | .bk s1 => ok (.nx s1)
        | o => ok o
      else ok (.nx s1)) = some r
      cases b with
      | false => exact h
      | true =>
        rw [if_pos rfl] at h ⊢
        match (F s1 : M Out), h with
        | none, h => cases h
        | some (.ex _ _), h => exact h
        | some (.ok (.nx s2)), h => exact whileN_up (n := n) h
        | some (.ok (.ct s2)), h => exact whileN_up (n := n) h
        | some (.ok (.bk s2)), h => exact h
        | some (.ok (.rt d s2)), h => exact h
        | some (.ok (.rf d s2)), h => exact h
theorem whileN_le {c : S → M (Bool × S)} {F : S → M Out} {n : Nat} {s : S} {r : Rs Out} (h : whileN c F n s = some r) (k : Nat) : whileN c F (n + k) s = some r := by
  induction k with
  | zero => exact h
  | succ k ih => exact whileN_up ih
theorem sWhile_of {c : S → M (Bool × S)} {F : S → M Out} {n : Nat} {s : S} {r : Rs Out} (h : whileN c F n s = some r) : sWhile c F s = some r := by
  have e : ∃ n r, whileN c F n s = some r := ⟨n, r, h⟩
  unfold sWhile
  rw [dif_pos e]
  have e2 := Classical.choose_spec (Classical.choose_spec e)
  generalize Classical.choose (Classical.choose_spec e) = o2 at e2
  have a := whileN_le h (Classical.choose e)
  have b := whileN_le e2 n
  rw [Nat.add_comm] at b
  exact b.symm.trans a
theorem of_sWhile {c : S → M (Bool × S)} {F : S → M Out} {s : S} {m : M Out} (h : sWhile c F s = m) : m = none ∨ ∃ n r, m = some r ∧ whileN c F n s = some r := by
  unfold sWhile at h
  split at h
  · next e => exact .inr ⟨_, _, h.symm, Classical.choose_spec (Classical.choose_spec e)⟩
  · exact .inl h.symm
/-! ### for -/
def forL (T : D → S → M S) (F : S → M Out) : List D → S → M Out
  | [], s => ok (.nx s)
  | d :: ds, s => bd (T d s) fun s1 => bd (F s1) fun o => match o with
    | .nx s2 => forL T F ds s2
    | .ct s2 => forL T F ds s2
    | .bk s2 => ok (.nx s2)
    | o => ok o
def sFor (fi : S → M (List D × S)) (T : D → S → M S) (F : S → M Out) : S → M Out := fun s => bd (fi s) fun p => forL T F p.1 p.2
section
variable {X : Cx} {K : PySem.W.Frag} {cl : Cl} {wx : WX} {pos : Pos} {body : List Stmt} {ts us : List Nat} {F : S → M Out} {c : S → M (Bool × S)} {fi : S → M (List D × S)} {T : D → S → M S} {ce tg it : Expr}
theorem s_while (hp : PassesOwn (model X.prog X.w) X.A X.env X.xe) (hc : PT X ce (TTof K cl wx c)) (hb : PSs X body (TSof K cl wx ts F)) : PS X (.While ce body [] pos) (TSof K cl wx ts (sWhile c F)) := by
  refine iS (ps_while hp hc hb) ?_
  rintro E σ0 H0 ⟨w, L0, sd, W, h⟩
  rcases of_sWhile (c := c) (F := F) (s := sd) rfl with e | ⟨n, rr, e, hn⟩
  · rw [e] at h; exact h.elim
  rw [e] at h
  refine ⟨fun m σ H => ∃ L s, Wl K cl w L s σ H ∧ Step w L0 H0 L H ∧ Agree ts σ0 σ ∧ whileN c F m s = some rr, ⟨n, L0, sd, W, .refl, .refl, hn⟩, ?_⟩
  rintro m σ H ⟨L, s, Ws, st, ag, hm⟩
  match m, hm with
  | 0, hm => cases hm
  | m + 1, hm =>
    rw [whileN] at hm
    refine ⟨w, L, s, Ws, ?_⟩
    match (c s : M (Bool × S)), hm with
    | none, hm => cases hm
    | some (.ex _ _), hm => cases hm; exact h
    | some (.ok (b, s1)), hm =>
      intro H1 st1 W1
      have st2 := st.trans st1
      cases b with
      | false =>
        refine iteF ?_
        have hm : ok (Out.nx s1) = some rr := hm
        cases hm
        exact h L σ H1 st2 W1 ag
      | true =>
        refine iteT ⟨fun σ' H' => ∃ L s, Wl K cl w L s σ' H' ∧ Step w L0 H0 L H' ∧ Agree ts σ0 σ' ∧ whileN c F m s = some rr, fun σ' H' q => ⟨m, Nat.lt_succ_self _, q⟩, w, L, s1, W1, ?_⟩
        have hm : (bd (F s1) fun o => match o with
          | .nx s1 => whileN c F m s1
          | .ct s1 => whileN c F m s1
          | .bk s1 => ok (.nx s1)
          | o => ok o) = some rr := hm
        have ag2 : ∀ {σ'}, Agree ts σ σ' → Agree ts σ0 σ' := fun q => (ag.trans q).le fun i hi => (List.mem_append.mp hi).elim id id
        match (F s1 : M Out), hm with
        | none, hm => cases hm
        | some (.ex _ _), hm => cases hm; exact h
        | some (.ok (.nx s2)), hm => exact fun L' σ' H' a b q => ⟨L', s2, b, st2.trans a, ag2 q, hm⟩
        | some (.ok (.ct s2)), hm => exact fun L' σ' H' a b q => ⟨L', s2, b, st2.trans a, ag2 q, hm⟩
        | some (.ok (.bk s2)), hm => cases hm; exact fun L' σ' H' a b q => h L' σ' H' (st2.trans a) b (ag2 q)
        | some (.ok (.rt d s2)), hm => cases hm; exact fun L' σ' H' v a b q => h L' σ' H' v (st2.trans a) b q
        | some (.ok (.rf d s2)), hm => cases hm; exact fun L' σ' H' v a b q r t => h L' σ' H' v (st2.trans a) b q r t
theorem s_for [nt : NoX T] (hp : PassesOwn (model X.prog X.w) X.A X.env X.xe) (hi : PI X tg it (TIof K cl wx fi)) (hg : PG X tg (TGof K cl wx us T)) (hb : PSs X body (TSof K cl wx ts F)) (hc : X.calm = true := by rfl) (hs : ∀ v, foldedSetIterable it X.env v = pure v := by intro _; rfl) : PS X (.For tg it body [] pos) (TSof K cl wx (us ++ ts) (sFor fi T F)) := by
  refine iS (ps_for hp hc hi hg hb hs) ?_
  rintro E σ0 H0 ⟨w, L0, sd, W, h⟩
  unfold sFor at h
  refine ⟨w, L0, sd, W, ?_⟩
  match (fi sd : M (List D × S)), h with
  | none, h => exact h.elim
  | some (.ex _ _), h => exact h
  | some (.ok (ds, s1)), h =>
    intro J H1 st1 W1 it
    have h : PostS K cl wx (us ++ ts) w L0 σ0 H0 E (forL T F ds s1) := h
    generalize e0 : forL T F ds s1 = m at h
    match m, h with
    | none, h => exact h.elim
    | some o, h =>
      refine ⟨fun i m σ H => m = ds.length - i ∧ i ≤ ds.length ∧ ∃ L s, Wl K cl w L s σ H ∧ Step w L0 H1 L H ∧ Agree (us ++ ts) σ0 σ ∧ forL T F (ds.drop i) s = some o, ⟨ds.length, by omega, Nat.zero_le _, L0, s1, W1, .refl, .refl, e0⟩, ?_⟩
      rintro i m σ H ⟨rfl, hi, L, s, Ws, st, ag, hm⟩
      have shi : Same (hide (L0 ++ w.O0) H1) (hide (L ++ w.O0) H) := st.seen W.sub
      by_cases hlt : i < ds.length
      · refine .inr ⟨it.go i _ H shi hlt, fun σ' H' => ∃ L s, Wl K cl w L s σ' H' ∧ Step w L0 H1 L H' ∧ Agree (us ++ ts) σ0 σ' ∧ forL T F (ds.drop (i + 1)) s = some o, fun σ' H' q => ⟨ds.length - (i + 1), by omega, rfl, hlt, q⟩, fun x H2 hy => ?_⟩
        obtain ⟨sm, hx⟩ := it.yld i _ H x H2 shi Ws.alive hy
        have hx := hx ds[i] (List.getElem?_eq_getElem hlt)
        rw [List.drop_eq_getElem_cons hlt] at hm
        have W2 := Ws.ext sm
        have st2 := st.trans (.of_same sm)
        refine ⟨w, L, s, ds[i], W2, hx, ?_⟩
        have hm : (bd (T ds[i] s) fun s1 => bd (F s1) fun o => match o with
          | .nx s2 => forL T F (ds.drop (i + 1)) s2
          | .ct s2 => forL T F (ds.drop (i + 1)) s2
          | .bk s2 => ok (.nx s2)
          | o => ok o) = some o := hm
        generalize eT : T ds[i] s = mT at hm
        match mT, hm with
        | none, hm => cases hm
        | some (.ex _ _), hm => exact (nt.no _ _ _ _ eT).elim
        | some (.ok s3), hm =>
          intro σ3 H3 st3 W3 ag3
          refine ⟨w, L, s3, W3, ?_⟩
          have st3 := st2.trans st3
          have ag4 : ∀ {σ'}, Agree ts σ3 σ' → Agree (us ++ ts) σ0 σ' := fun q => (ag.trans (ag3.trans q)).le fun i hi => (List.mem_append.mp hi).elim id id
          have hm : (bd (F s3) fun o => match o with
            | .nx s2 => forL T F (ds.drop (i + 1)) s2
            | .ct s2 => forL T F (ds.drop (i + 1)) s2
            | .bk s2 => ok (.nx s2)
            | o => ok o) = some o := hm
          match (F s3 : M Out), hm with
          | none, hm => cases hm
          | some (.ex _ _), hm => cases hm; exact h
          | some (.ok (.nx s4)), hm => exact fun L' σ' H' a b q => ⟨L', s4, b, st3.trans a, ag4 q, hm⟩
          | some (.ok (.ct s4)), hm => exact fun L' σ' H' a b q => ⟨L', s4, b, st3.trans a, ag4 q, hm⟩
          | some (.ok (.bk s4)), hm => cases hm; exact fun L' σ' H' a b q => h L' σ' H' ((st1.trans st3).trans a) b (ag4 q)
          | some (.ok (.rt d s4)), hm => cases hm; exact fun L' σ' H' v a b q => h L' σ' H' v ((st1.trans st3).trans a) b q
          | some (.ok (.rf d s4)), hm => cases hm; exact fun L' σ' H' v a b q r t => h L' σ' H' v ((st1.trans st3).trans a) b q r t
      · have ei : i = ds.length := by omega
        subst ei
        rw [List.drop_length] at hm
        cases hm
        exact .inl ⟨it.stop _ _ H shi (Nat.le_refl _), h L σ H (st1.trans st) Ws ag⟩
end
end Dt
namespace Dt
open L2 PySem PySem.Spec PyProof.Rows
/-! ### lists of the def's own: stored, read, changed -/
/-- the content of an own slot -/
def ownL : Option Sl → Option (List D)
  | some (.own (.lst ds)) => some ds
  | some (.io (.lst ds)) => some ds
  | _ => none
/-- .. changed -/
def putL (s : S) (i : Nat) (ds : List D) : S := match s[i]? with
  | some (.io _) => s.set i (.io (.lst ds))
  | _ => s.set i (.own (.lst ds))
def sApp (i : Nat) (f : S → M (D × S)) : S → M Out := fun s => match ownL s[i]? with
  | some _ => bd (f s) fun p => match ownL p.2[i]? with
    | some ds => if ds.length < sizeLine then ok (.nx (putL p.2 i (ds ++ [p.1]))) else none
    | none => none
  | none => none
def sPut (i : Nat) (fk f : S → M (D × S)) : S → M Out := fun s => bd (f s) fun p => match ownL p.2[i]? with
  | some _ => bd (fk p.2) fun q => match ownL q.2[i]?, q.1 with
    | some ds, .int k => match ixN ds.length k with
      | some j => ok (.nx (putL q.2 i (ds.set j p.1)))
      | none => none
    | _, _ => none
  | none => none
def dOwnIx (i : Nat) (fk : S → M (D × S)) : S → M (D × S) := fun s => match ownL s[i]? with
  | some _ => bd (fk s) fun q => match ownL q.2[i]?, q.1 with
    | some ds, .int k => match atI ds k with
      | some d => ok (d, q.2)
      | none => none
    | _, _ => none
  | none => none
def viewS (s : S) : S := s.map fun x => match x with
  | .own d => .val d
  | .io d => .val d
  | x => x
def dView (f : S → M (D × S)) : S → M (D × S) := fun s => bd (nx (f (viewS s))) fun p => if p.1.scal = true then ok (p.1, s) else none
def tView (f : S → M (Bool × S)) : S → M (Bool × S) := fun s => bd (nx (f (viewS s))) fun p => ok (p.1, s)
/-- an own list becomes a value -/
def pubS (i : Nat) (s : S) : S := match s[i]? with
  | some (.own d) => s.set i (.val d)
  | _ => s
def sPub (i : Nat) (F : S → M Out) : S → M Out := fun s => F (pubS i s)
section
variable {X : Cx} {K : PySem.W.Frag} {cl : Cl} {wx : WX} {pos : Pos} {w : Wf} {L : List Addr} {sd : S} {σ : L2.St} {H : Hp} {f fk : S → M (D × S)} {F : S → M Out} {e ke : Expr} {ts : List Nat}
/-- where an own slot's list stands -/
theorem Wl.at (W : Wl K cl w L sd σ H) {i : Nat} {ds : List D} (h : ownL sd[i]? = some ds) : ∃ a xs, σ[i]? = some (some (.ref a)) ∧ (a ∈ L ∨ (a = w.a0 ∧ a ∈ w.I)) ∧ H a = some (.lst xs) ∧ RpA K cl (hide (L ++ w.O0) H) xs ds := by
  match q : sd[i]?, h with
  | some (.own (.lst es)), h =>
    cases h
    obtain ⟨a, h1, h2, xs, h3, h4⟩ := W.st.own i _ q
    exact ⟨a, xs, h1, .inl h2, h3, h4⟩
  | some (.io (.lst es)), h =>
    cases h
    obtain ⟨h1, h2, xs, h3, h4⟩ := W.st.io i _ q
    exact ⟨w.a0, xs, h1, .inr ⟨rfl, h2⟩, h3, h4⟩
theorem hide_in {O : List Addr} {H : Hp} {a : Addr} {o : HO} (h : a ∈ O) : hide O (upd H a o) = hide O H := by
  funext b
  unfold hide
  by_cases z : b ∈ O
  · rw [if_pos z, if_pos z]
  · rw [if_neg z, if_neg z, upd_ne]
    rintro rfl
    exact z h
/-- the data of an own slot -/
def ownD : Option Sl → Option D
  | some (.own d) => some d
  | some (.io d) => some d
  | _ => none
def putD (s : S) (i : Nat) (d : D) : S := match s[i]? with
  | some (.io _) => s.set i (.io d)
  | _ => s.set i (.own d)
theorem putD_len (s : S) (i : Nat) (d : D) : (putD s i d).length = s.length := by
  unfold putD
  split <;> rw [List.length_set]
theorem putD_ne (s : S) (i j : Nat) (d : D) (h : j ≠ i) : (putD s i d)[j]? = s[j]? := by
  unfold putD
  split <;> rw [List.getElem?_set_ne (Ne.symm h)]
theorem Wl.atD (W : Wl K cl w L sd σ H) {i : Nat} {d : D} (h : ownD sd[i]? = some d) : ∃ a, σ[i]? = some (some (.ref a)) ∧ (a ∈ L ∨ (a = w.a0 ∧ a ∈ w.I)) ∧ OwnAt K cl w.H0 (L ++ w.O0) H a d := by
  match q : sd[i]?, h with
  | some (.own es), h =>
    cases h
    obtain ⟨a, h1, h2, h3⟩ := W.st.own i _ q
    exact ⟨a, h1, .inl h2, h3⟩
  | some (.io es), h =>
    cases h
    obtain ⟨h1, h2, h3⟩ := W.st.io i _ q
    exact ⟨w.a0, h1, .inr ⟨rfl, h2⟩, h3⟩
/-- what an own slot holds is changed, all else stays -/
theorem Wl.wrote (W : Wl K cl w L sd σ H) {H' : Hp} {i : Nat} {d0 d1 : D} {a : Addr} (h : ownD sd[i]? = some d0) (hσ : σ[i]? = some (some (.ref a))) (ha : a ∈ L ∨ (a = w.a0 ∧ a ∈ w.I)) (hl : H a ≠ none)
    (kp : ∀ b o, b ≠ a → H b = some o → H' b = some o) (hnew : OwnAt K cl w.H0 (L ++ w.O0) H' a d1) : Wl K cl w L (putD sd i d1) σ H' ∧ Step w L H L H' := by
  have hin : a ∈ L ++ w.O0 := by
    rcases ha with z | z
    · (exact List.mem_append_left _ z)
    · exact List.mem_append_right _ (W.sub a z.2)
  have hh : Same (hide (L ++ w.O0) H) (hide (L ++ w.O0) H') := fun b o e => by
    obtain ⟨n, e⟩ := hide_some.mp e
    exact hide_some.mpr ⟨n, kp b o (fun z => n (z ▸ hin)) e⟩
  have own : ∀ {b d}, b ≠ a → OwnAt K cl w.H0 (L ++ w.O0) H b d → OwnAt K cl w.H0 (L ++ w.O0) H' b d := fun {b d} n q => by
    refine q.move ?_ hh
    cases z : H b with
    | none => exact absurd z q.some
    | some o => exact kp b o n z
  have hk : (∃ d, sd[i]? = some (.own d)) ∨ ∃ d, sd[i]? = some (.io d) := by
    match q : sd[i]?, h with
    | some (.own es), h => exact .inl ⟨_, rfl⟩
    | some (.io es), h => exact .inr ⟨_, rfl⟩
  have hlen : i < sd.length := by
    rcases hk with ⟨d, e⟩ | ⟨d, e⟩ <;> exact (List.getElem?_eq_some_iff.mp e).1
  have ne_own : ∀ {j : Nat} {d : D} {b : Addr}, j ≠ i → sd[j]? = some (.own d) → σ[j]? = some (some (.ref b)) → b ≠ a := fun {j d b} hj e1 e2 e3 => by
    subst e3
    rcases hk with ⟨d', e⟩ | ⟨d', e⟩
    · exact hj (W.st.inj j i d d' b e1 e e2 hσ)
    · obtain ⟨q1, q2, _⟩ := W.st.io i d' e
      rw [hσ] at q1
      cases q1
      obtain ⟨c, p1, p2, _⟩ := W.st.own j d e1
      rw [e2] at p1
      cases p1
      exact W.disj _ p2 (W.sub _ q2)
  have ne_io : ∀ {j : Nat} {d : D}, j ≠ i → sd[j]? = some (.io d) → w.a0 ≠ a := fun {j d} hj e1 e3 => by
    rcases hk with ⟨d', e⟩ | ⟨d', e⟩
    · obtain ⟨c, p1, p2, _⟩ := W.st.own i d' e
      rw [hσ] at p1
      cases p1
      obtain ⟨_, q2, _⟩ := W.st.io j d e1
      rw [← e3] at p2
      exact W.disj _ p2 (W.sub _ q2)
    · exact hj (W.st.ioj j i d d' e1 e)
  have alv : ∀ b, H b ≠ none → H' b ≠ none := fun b e => by
    by_cases z : b = a
    · rw [z]; exact hnew.some
    · cases q : H b with
      | none => exact absurd q e
      | some o => rw [kp b o z q]; simp
  -- a slot of the new state
  have put : ∀ {j : Nat} {x : Sl}, (putD sd i d1)[j]? = some x → (j ≠ i ∧ sd[j]? = some x) ∨ (j = i ∧ ((x = .own d1 ∧ ∃ d', sd[i]? = some (.own d')) ∨ (x = .io d1 ∧ ∃ d', sd[i]? = some (.io d')))) := fun {j x} e => by
    by_cases hj : j = i
    · subst hj
      refine .inr ⟨rfl, ?_⟩
      unfold putD at e
      rcases hk with ⟨d', q⟩ | ⟨d', q⟩
      · rw [q] at e
        dsimp only at e
        rw [List.getElem?_set_self hlen] at e
        cases e
        exact .inl ⟨rfl, d', q⟩
      · rw [q] at e
        dsimp only at e
        rw [List.getElem?_set_self hlen] at e
        cases e
        exact .inr ⟨rfl, d', q⟩
    · rw [putD_ne _ _ _ _ hj] at e
      exact .inl ⟨hj, e⟩
  have pown : ∀ {j : Nat} {d : D}, (putD sd i d1)[j]? = some (.own d) → ∃ d2, sd[j]? = some (.own d2) := fun {j d} e => by
    rcases put e with ⟨_, q⟩ | ⟨rfl, ⟨_, q⟩ | ⟨q, _⟩⟩
    · exact ⟨d, q⟩
    · exact q
    · cases q
  have pio : ∀ {j : Nat} {d : D}, (putD sd i d1)[j]? = some (.io d) → ∃ d2, sd[j]? = some (.io d2) := fun {j d} e => by
    rcases put e with ⟨_, q⟩ | ⟨rfl, ⟨q, _⟩ | ⟨_, q⟩⟩
    · exact ⟨d, q⟩
    · cases q
    · exact q
  refine ⟨⟨fun b o n e => ?_, W.fresh, fun b hb => alv b (W.alive b hb), W.disj, W.sub, ⟨fun j d e => ?_, fun j d e => ?_, fun j d e => ?_, fun j k d d' b h1 h2 h3 h4 => ?_, fun j k d d' h1 h2 => ?_, by rw [putD_len]; exact W.st.len⟩⟩, ⟨fun b o n1 n2 e => ?_, alv, fun b hb => .inl hb⟩⟩
  · by_cases z : b = a
    · subst z
      rcases ha with y | y
      · rw [W.fresh b y] at e; cases e
      · exact absurd y.2 n
    · exact kp b o z (W.keep b o n e)
  · rcases put e with ⟨hj, q⟩ | ⟨_, ⟨q, _⟩ | ⟨q, _⟩⟩
    · obtain ⟨v, q1, q2⟩ := W.st.val j d q
      exact ⟨v, q1, q2.mono hh⟩
    · cases q
    · cases q
  · rcases put e with ⟨hj, q⟩ | ⟨rfl, ⟨q, d', q'⟩ | ⟨q, _⟩⟩
    · obtain ⟨c, p1, p2, p3⟩ := W.st.own j d q
      exact ⟨c, p1, p2, own (ne_own hj q p1) p3⟩
    · cases q
      obtain ⟨c, p1, p2, _⟩ := W.st.own j d' q'
      rw [hσ] at p1
      cases p1
      exact ⟨a, hσ, p2, hnew⟩
    · cases q
  · rcases put e with ⟨hj, q⟩ | ⟨rfl, ⟨q, _⟩ | ⟨q, d', q'⟩⟩
    · obtain ⟨p1, p2, p3⟩ := W.st.io j d q
      exact ⟨p1, p2, own (ne_io hj q) p3⟩
    · cases q
    · cases q
      obtain ⟨p1, p2, _⟩ := W.st.io j d' q'
      rw [hσ] at p1
      cases p1
      exact ⟨hσ, p2, hnew⟩
  · obtain ⟨_, g1⟩ := pown h1
    obtain ⟨_, g2⟩ := pown h2
    exact W.st.inj j k _ _ b g1 g2 h3 h4
  · obtain ⟨_, g1⟩ := pio h1
    obtain ⟨_, g2⟩ := pio h2
    exact W.st.ioj j k _ _ g1 g2
  · refine kp b o ?_ e
    rintro rfl
    rcases ha with y | y
    · exact n1 y
    · exact n2 y.2
theorem putL_D (s : S) (i : Nat) (ds : List D) : putL s i ds = putD s i (.lst ds) := rfl
theorem ownL_D {o : Option Sl} {ds : List D} (h : ownL o = some ds) : ownD o = some (.lst ds) := by
  match o, h with
  | some (.own (.lst es)), h => cases h; rfl
  | some (.io (.lst es)), h => cases h; rfl
/-- an own list is changed -/
theorem Wl.write (W : Wl K cl w L sd σ H) {i : Nat} {ds es : List D} {a : Addr} {ys : List V} (h : ownL sd[i]? = some ds) (hσ : σ[i]? = some (some (.ref a))) (ha : a ∈ L ∨ (a = w.a0 ∧ a ∈ w.I)) (hl : H a ≠ none)
    (r : RpA K cl (hide (L ++ w.O0) H) ys es) : Wl K cl w L (putL sd i es) σ (upd H a (.lst ys)) ∧ Step w L H L (upd H a (.lst ys)) := by
  have hin : a ∈ L ++ w.O0 := by
    rcases ha with z | z
    · (exact List.mem_append_left _ z)
    · exact List.mem_append_right _ (W.sub a z.2)
  rw [putL_D]
  exact W.wrote (ownL_D h) hσ ha hl (fun b o n e => by rw [upd_ne n]; exact e) ⟨ys, upd_same, by rw [hide_in hin]; exact r⟩
/-- xs.append(e) -/
theorem s_app (i : Nat) {x : Str} {p0 apos cpos : Pos} (he : PE X e (TEof X.K cl wx f)) (hN : X.N[i]? = some x := by rfl) (hv : Vis X.env.scope x := by first | exact Or.inl rfl | exact Or.inr (Or.inl rfl) | exact Or.inr (Or.inr rfl))
    (hd : (x == ("__debug__"
          : Str)) = false := by decide) (hcd : (x == ("__classdict__" : Str)) = false := by decide)
    (hbase : attributeBase (.Name x p0) "append" X.env (eval (.Name x p0) X.env) = eval (.Name x p0) X.env := by rfl)
    (hfew :
          ((backTo cpos (starEach [e] X.env)).all (fun x => !x.1) && (backToKw cpos (keywordEach [] X.env)).all (fun x => x.1.isSome)
      && decide (([e]
            : List Expr).length + ([] : List Keyword).length + (if ([] : List Keyword).isEmpty then 0 else 1) < 30)) = true := by rfl)
    (hline : (apos.endLine == cpos.line) = true := by rfl) (hs : starEach [e] X.env = (false, eval e X.env) :: starEach [] X.env := by rfl) (hplain : (backTo cpos (starEach [] X.env)).any (·.1) = false := by rfl)
    (hsw : swapsWith (.Call (.Attribute (.Name x p0) "append" apos) [e] [] cpos) none pos.line X.env = pure false := by rfl) :
    PS X (.Expr (.Call (.Attribute (.Name x p0) "append" apos) [e] [] cpos) pos) (TSof X.K cl wx [] (sApp i f)) := by
  refine iS (ps_expr (pe_bm PySem.F.plainAttrs_list PySem.F.slot_list_append PySem.F.type_list_append mt_append (pe_var hN hv hd hcd) (pa_cons he pa_nil hs) hbase hfew hline hs hplain) hsw) ?_
  rintro E σ H ⟨w, L, sd, W, h⟩
  unfold sApp at h
  split at h
  · next ds0 e0 =>
    obtain ⟨a, xs, h1, h2, h3, h4⟩ := W.at e0
    refine ⟨.ref a, h1, .inl ⟨rfl, xs, SqL.of h3⟩, w, L, sd, W, PostE.bd botS h fun r s1 h v H1 st1 W1 rr => ?_⟩
    dsimp only at h
    split at h
    · next ds e1 =>
      obtain ⟨a', xs', q1, q2, q3, q4⟩ := W1.at e1
      rw [h1] at q1
      cases q1
      split at h
      · next c =>
        obtain ⟨W2, st2⟩ := W1.write (es := ds ++ [r]) (ys := xs' ++ [v]) e1 h1 q2 (by rw [q3]; simp) (q4.append (.cons rr .nil))
        exact ⟨a, xs', v, rfl, rfl, q3, by rw [q4.len]; exact c, h L σ _ (st1.trans st2) W2 .refl⟩
      · exact h.elim
    · exact h.elim
  · exact h.elim
/-- xs[k] = e -/
theorem s_put (i : Nat) {x : Str} {p0 spos : Pos} (he : PE X e (TEof K cl wx f)) (hk : PE X ke (TEof K cl wx fk)) (hN : X.N[i]? = some x := by rfl) (hv : Vis X.env.scope x := by first | exact Or.inl rfl | exact Or.inr (Or.inl rfl) | exact Or.inr (Or.inr rfl))
    (hd : (x == ("__debug__"
          : Str)) = false := by decide) (hcd : (x == ("__classdict__" : Str)) = false := by decide)
    (ha : ∀ v, assign (.Subscript (.Name x p0) ke spos) X.env v = (do
      let ov ← holding [v] (eval (.Name x p0) X.env)
      let iv ← holding [v, ov] (eval ke X.env)
      standAt spos
      (holding [v, ov, iv] (setItem ov iv v))
      release [v, ov, iv] []) := by intro _; rfl)
    (hs : swapsWithSole [.Subscript (.Name x p0) ke spos] e pos.line X.env = pure false := by rfl) (hw : swappedStores [.Subscript (.Name x p0) ke spos] e X.env = pure none := by rfl)
    (h1 : (assignEach [.Subscript (.Name x p0) ke spos] X.env).map (·.2) = [assign (.Subscript (.Name x p0) ke spos) X.env] := by rfl) :
    PS X (.Assign [.Subscript (.Name x p0) ke spos] e pos) (TSof K cl wx [] (sPut i fk f)) := by
  refine iS (ps_asg he (pg_sub (pe_var hN hv hd hcd) hk set_list ha) hs hw h1) ?_
  rintro E σ H ⟨w, L, sd, W, h⟩
  refine ⟨w, L, sd, W, PostE.bd botS h fun r s1 h v H1 st1 W1 rr => ?_⟩
  dsimp only at h
  split at h
  · next ds0 e0 =>
    obtain ⟨a, xs, q1, q2, q3, q4⟩ := W1.at e0
    refine ⟨.ref a, q1, w, L, s1, W1, PostE.bd botS h fun k s2 h u H2 st2 W2 rk => ?_⟩
    dsimp only at h
    split at h
    · next ds k' e1 =>
      cases rk
      obtain ⟨a', xs', p1, p2, p3, p4⟩ := W2.at e1
      rw [q1] at p1
      cases p1
      split at h
      · next j e2 =>
        obtain ⟨W3, st3⟩ := W2.write (es := ds.set j r) (ys := xs'.set j v) e1 q1 p2 (by rw [p3]; simp) (p4.set j (rr.mono (st2.sn W2)))
        exact ⟨a, xs', k', j, rfl, rfl, p3, by rw [p4.len]; exact e2, h L σ _ ((st1.trans st2).trans st3) W3 .refl⟩
      · exact h.elim
    · exact h.elim
  · exact h.elim
/-- xs[k] of an own list -/
theorem d_ownIx (i : Nat) {x : Str} {p0 spos : Pos} (hk : PE X ke (TEof X.K cl wx fk)) (hp : PlainIx ke := by exact fun _ _ => rfl) (hN : X.N[i]? = some x := by rfl) (hv : Vis X.env.scope x := by first | exact Or.inl rfl | exact Or.inr (Or.inl rfl) | exact Or.inr (Or.inr rfl))
    (hd : (x == ("__debug__" : Str)) = false := by decide) (hcd : (x == ("__classdict__" : Str)) = false := by decide) : PE X (.Subscript (.Name x p0) ke spos) (TEof X.K cl wx (dOwnIx i fk)) := by
  refine iE (pe_ix ix_list (pe_var hN hv hd hcd) hk hp) ?_
  rintro σ H Q ⟨w, L, sd, W, h⟩
  unfold dOwnIx at h
  split at h
  · next ds0 e0 =>
    obtain ⟨a, xs, q1, q2, q3, q4⟩ := W.at e0
    refine ⟨.ref a, q1, w, L, sd, W, PostE.bd botE h fun k s2 h u H2 st2 W2 rk => ?_⟩
    dsimp only at h
    split at h
    · next ds k' e1 =>
      cases rk
      obtain ⟨a', xs', p1, p2, p3, p4⟩ := W2.at e1
      rw [q1] at p1
      cases p1
      split at h
      · next d e2 =>
        unfold atI at e2
        rw [← p4.len] at e2
        cases e3 : ixN xs'.length k' with
        | none => rw [e3] at e2; cases e2
        | some j =>
          rw [e3] at e2
          obtain ⟨v, g1, g2⟩ := p4.get j e2
          refine ⟨a, xs', k', v, rfl, rfl, SqL.of p3, ?_, h v H2 st2 W2 g2⟩
          unfold atI
          rw [e3]
          exact g1
      · exact h.elim
    · exact h.elim
  · exact h.elim
/-! ### all lists seen for a moment -/
theorem viewS_get (s : S) (i : Nat) : (viewS s)[i]? = (s[i]?).map fun x => match x with
  | .own d => .val d
  | .io d => .val d
  | x => x := by unfold viewS; rw [List.getElem?_map]
theorem Wl.view (W : Wl K cl w L sd σ H) : Wl K cl ⟨w.O0.filter fun a => a ∉ w.I, [], w.a0, H⟩ [] (viewS sd) σ H := by
  have nO : ∀ {a}, a ∈ ([] : List Addr) ++ (w.O0.filter fun a => a ∉ w.I) → a ∈ w.O0 ∧ a ∉ w.I := fun {a} h => by simpa using h
  have sm : Same (hide (L ++ w.O0) H) (hide (([] : List Addr) ++ (w.O0.filter fun a => a ∉ w.I)) H) := hide_sub fun a h => List.mem_append_right _ (nO h).1
  refine ⟨fun _ _ _ e => e, fun a h => by simp at h, fun a h => W.alive a (List.mem_append_right _ (nO h).1), fun a h => by simp at h, fun a h => by simp at h, ⟨fun i d e => ?_, fun i d e => ?_, fun i d e => ?_, fun i j d d' a e => ?_, fun i j d d' e => ?_, by unfold viewS; rw [List.length_map]; exact W.st.len⟩⟩
  · rw [viewS_get] at e
    match q : sd[i]?, e with
    | some (.val d'), e =>
      cases e
      obtain ⟨v, h1, h2⟩ := W.st.val i _ q
      exact ⟨v, h1, h2.mono sm⟩
    | some (.own d'), e =>
      cases e
      obtain ⟨a, h1, h2, h3⟩ := W.st.own i _ q
      exact ⟨.ref a, h1, h3.rp (fun z => W.disj a h2 (nO z).1) sm⟩
    | some (.io d'), e =>
      cases e
      obtain ⟨h1, h2, h3⟩ := W.st.io i _ q
      exact ⟨_, h1, h3.rp (fun z => (nO z).2 h2) sm⟩
  · rw [viewS_get] at e
    match q : sd[i]?, e with
    | some (.val d'), e => cases e
    | some (.own d'), e => cases e
    | some (.io d'), e => cases e
    | some .un, e => cases e
  · rw [viewS_get] at e
    match q : sd[i]?, e with
    | some (.val d'), e => cases e
    | some (.own d'), e => cases e
    | some (.io d'), e => cases e
    | some .un, e => cases e
  · rw [viewS_get] at e
    match q : sd[i]?, e with
    | some (.val d'), e => cases e
    | some (.own d'), e => cases e
    | some (.io d'), e => cases e
    | some .un, e => cases e
  · rw [viewS_get] at e
    match q : sd[i]?, e with
    | some (.val d'), e => cases e
    | some (.own d'), e => cases e
    | some (.io d'), e => cases e
    | some .un, e => cases e
theorem d_view (h : PE X e (TEof K cl noW f)) : PE X e (TEof K cl wx (dView f)) := by
  refine iE h ?_
  rintro σ H Q ⟨w, L, sd, W, h⟩
  refine ⟨_, [], _, W.view, ?_⟩
  unfold dView at h
  generalize f (viewS sd) = m at h
  match m, h with
  | none, h => exact h.elim
  | some (.ex _ _), h => exact h.elim
  | some (.ok (r, s1)), h =>
    intro v H1 st1 W1 rr
    have h : PostE K cl wx w L σ H Q (if r.scal = true then ok (r, sd) else none) := h
    have sm : Same H H1 := fun b o e => st1.keep b o (by simp) (by simp) e
    split at h
    · next c => exact h v H1 (.of_same sm) (W.ext sm) (rr.scal c)
    · exact h.elim
theorem t_view {f : S → M (Bool × S)} (h : PT X e (TTof K cl noW f)) : PT X e (TTof K cl wx (tView f)) := by
  refine iT h ?_
  rintro σ H Q ⟨w, L, sd, W, h⟩
  refine ⟨_, [], _, W.view, ?_⟩
  unfold tView at h
  generalize f (viewS sd) = m at h
  match m, h with
  | none, h => exact h.elim
  | some (.ex _ _), h => exact h.elim
  | some (.ok (r, s1)), h =>
    intro H1 st1 W1
    have sm : Same H H1 := fun b o e => st1.keep b o (by simp) (by simp) e
    exact h H1 (.of_same sm) (W.ext sm)
/-! ### an own list is seen from now on -/
theorem pub_read {i0 : Nat} {E : Ends} (h : TSof K cl wx ts (sPub i0 F) E σ H) : TSof K cl wx ts F E σ H := by
  obtain ⟨w, L, sd, W, h⟩ := h
  unfold sPub pubS at h
  split at h
  · next d e =>
    obtain ⟨a, h1, h2, h3⟩ := W.st.own i0 d e
    have mem : ∀ {b}, b ∈ L.filter (fun x => x ≠ a) ↔ b ∈ L ∧ b ≠ a := by intro b; simp
    have sm : Same (hide (L ++ w.O0) H) (hide (L.filter (fun x => x ≠ a) ++ w.O0) H) := hide_sub fun b hb => by
      rcases List.mem_append.mp hb with z | z
      · exact List.mem_append_left _ (mem.mp z).1
      · exact List.mem_append_right _ z
    have hlen : i0 < sd.length := (List.getElem?_eq_some_iff.mp e).1
    have na : a ∉ L.filter (fun x => x ≠ a) ++ w.O0 := fun z => by
      rcases List.mem_append.mp z with z | z
      · exact (mem.mp z).2 rfl
      · exact W.disj a h2 z
    have get : ∀ {j : Nat} {x : Sl}, j ≠ i0 → (sd.set i0 (.val d))[j]? = some x → sd[j]? = some x := fun h e => by rwa [List.getElem?_set_ne (Ne.symm h)] at e
    have self : ∀ {x : Sl}, (sd.set i0 (.val d))[i0]? = some x → x = .val d := fun {x} q => by
      rw [List.getElem?_set_self hlen] at q; cases q; rfl
    refine ⟨w, L.filter (fun x => x ≠ a), sd.set i0 (.val d), ⟨W.keep, fun b hb => W.fresh b (mem.mp hb).1, fun b hb => W.alive b ?_, fun b hb => W.disj b (mem.mp hb).1, W.sub, ⟨fun j d' q => ?_, fun j d' q => ?_, fun j d' q => ?_, fun j k d1 d2 b q1 q2 => ?_, fun j k d1 d2 q1 q2 => ?_, by simpa using W.st.len⟩⟩, ?_⟩
    · rcases List.mem_append.mp hb with z | z
      · exact List.mem_append_left _ (mem.mp z).1
      · exact List.mem_append_right _ z
    · by_cases hj : j = i0
      · subst hj
        cases self q
        exact ⟨_, h1, h3.rp na sm⟩
      · obtain ⟨v, p1, p2⟩ := W.st.val j d' (get hj q)
        exact ⟨v, p1, p2.mono sm⟩
    · by_cases hj : j = i0
      · subst hj; cases self q
      · obtain ⟨b, p1, p2, p3⟩ := W.st.own j d' (get hj q)
        refine ⟨b, p1, mem.mpr ⟨p2, ?_⟩, p3.move rfl sm⟩
        rintro rfl
        exact hj (W.st.inj j i0 d' d b (get hj q) e p1 h1)
    · by_cases hj : j = i0
      · subst hj; cases self q
      · obtain ⟨p1, p2, p3⟩ := W.st.io j d' (get hj q)
        exact ⟨p1, p2, p3.move rfl sm⟩
    · by_cases hj : j = i0
      · subst hj; cases self q1
      · by_cases hk : k = i0
        · subst hk; cases self q2
        · exact W.st.inj j k d1 d2 b (get hj q1) (get hk q2)
    · by_cases hj : j = i0
      · subst hj; cases self q1
      · by_cases hk : k = i0
        · subst hk; cases self q2
        · exact W.st.ioj j k d1 d2 (get hj q1) (get hk q2)
    · have st : ∀ {L' H'}, Step w (L.filter fun x => x ≠ a) H L' H' → Step w L H L' H' := fun s => ⟨fun b o n1 n2 e => s.keep b o (fun z => n1 (mem.mp z).1) n2 e, s.alv, fun b hb => (s.new b hb).imp (fun z => (mem.mp z).1) id⟩
      match (F (sd.set i0 (.val d)) : M Out), h with
      | none, h => exact h.elim
      | some (.ex _ _), h => exact h
      | some (.ok (.nx s)), h => exact fun L' σ' H' a b c => h L' σ' H' (st a) b c
      | some (.ok (.bk s)), h => exact fun L' σ' H' a b c => h L' σ' H' (st a) b c
      | some (.ok (.ct s)), h => exact fun L' σ' H' a b c => h L' σ' H' (st a) b c
      | some (.ok (.rt d s)), h => exact fun L' σ' H' v a b c => h L' σ' H' v (st a) b c
      | some (.ok (.rf d s)), h => exact fun L' σ' H' v a b c d e => h L' σ' H' v (st a) b c d e
  · exact ⟨w, L, sd, W, h⟩
theorem s_pub (i : Nat) {sts : List Stmt} (h : PSs X sts (TSof K cl wx ts F)) : PSs X sts (TSof K cl wx ts (sPub i F)) := iSs h fun E σ H q => pub_read q
theorem s_pub1 (i : Nat) {st : Stmt} (h : PS X st (TSof K cl wx ts F)) : PS X st (TSof K cl wx ts (sPub i F)) := iS h fun E σ H q => pub_read q
end
end Dt
namespace Dt
open L2 PySem PySem.Spec PyProof.Rows
/-! ### defs, called where nothing is being shown (guards) -/
structure FnG (P : Program) (w : World) (K : PySem.W.Frag) (mg : Str → Option Value) (base : Heap) (CX : CXT) (k : Nat) (f : Addr) (fd : FuncData) (ps : List Str) (sp : Sp) : Prop where
  len : ∀ vs H Q E, sp vs H Q E
        → vs.length = ps.length
  go : ∀ (A : Around) (outer : List Env) (s : Shared) (H : Hp) (args : Args) (us : List Value) (vs : List V) (Q : VK) (E : XK), A.guards = some [] → Room k A →
    Env0 P w K mg base A outer s H → BindsTo s fd args (ps.zip us) → Vals vs us → sp vs H Q E → codeAny (model P w) A (.call (.ref f) args) (CR CX outer P w H s Q E) s
section
variable {P : Program} {w : World} {K : PySem.W.Frag} {mg : Str → Option Value} {base : Heap} {CX : CXT} {k j : Nat} {f : Addr} {fd : FuncData} {ps : List Str} {sp sp' : Sp}
theorem FnG.mono (F : FnG P w K mg base CX j f fd ps sp) (h : j ≤ k) : FnG P w K mg base CX k f fd ps sp :=
  ⟨F.len, fun A outer s H args us vs Q E hg hr => F.go A outer s H args us vs Q E hg (hr.mono h)⟩
theorem FnG.imp (F : FnG P w K mg base CX k f fd ps sp) (h : ∀ vs H Q E, sp' vs H Q E → sp vs H Q E) : FnG P w K mg base CX k f fd ps sp' :=
  ⟨fun vs H Q E q => F.len vs H Q E (h _ _ _ _ q), fun A outer s H args us vs Q E hg hr e b r q => F.go A outer s H args us vs Q E hg hr e b r (h _ _ _ _ q)⟩
/-- one run of a def, by its body -/
theorem run_def {name qual : Str} {params : Arguments} {body : List Stmt} {scope : Scope} {dV kV doc pm cdv ct oc : Value} {an od : Option Addr} {osl : Array (Option Value)} {N : List Str} {A : Around} {outer : List Env} {s : Shared} {H : Hp} {args : Args} {us : List Value} {vs : List V} {Q : VK} {E : XK} {t : TS}
    (at_f : K.lookup f = some ⟨oc, od, .func (PySem.W.fnOf name qual params body scope dV kV doc pm an cdv ct), osl⟩) (code_f : PySem.W.codeIn K cdv qual = true) (sc : FnScope N ps scope) (room : Room (k + 1) A)
    (e0 : Env0 P w K mg base A outer s H) (bt : BindsTo s (PySem.W.fnOf name qual params body scope dV kV doc pm an cdv ct) args (ps.zip us)) (rv : Vals vs us) (nargs : vs.length = ps.length)
    (walk : PSs (cxOf CX P w K mg base N qual scope f cdv A outer s H E) body t) (told : t { nx := fun _ H' => Q .non H', rt := Q } (start N vs) H) :
    codeAny
          (model P w) A (.call (.ref f) args) (CR CX outer P w H s Q E) s := by
  have inK := e0.mod.kin.keeps fun b o e => (e0.bs b o e).1
  have kinds : ∀ y ∈ ps.zip us, scope.names.lookup y.1 = some .local ∨
      (scope.names.lookup y.1 = some .cell ∧ ((cellsFrom (s.heap.objs.size + 1) scope.names []).lookup y.1).isSome = true) := by
    rintro ⟨n, v⟩ hy
    exact (sc.par n (List.of_mem_zip hy).1).imp id fun q => ⟨q, PySem.W.cellsFrom_some _ _ _ (.inl q)⟩
  refine codeAny_call_function room.depth (inK _ _ at_f) rfl sc.co sc.gen rfl
    (PySem.W.codeRec_of inK code_f) (bt _ _ _ _ (wpAny_newFunctionEnv_cells sc.kind kinds fun env he s1 x => ?_))
  subst he
  have lim : s.heap.NoLimit := e0.mod.nolimit.keeps
    fun b o e => (e0.bs b o e).1
  have I0 := inv_start (CX := CX) (E := E) sc room.hd e0 nargs rv x
  refine ⟨lim.keeps x.toInCall.keep, codeAny_func (wpAny_mono (walk.run [] s1 (start N vs) H _ I0 told) ?_ fun _ _ z => z)⟩
  intro fl s' z
  match fl, z with
  | .ret u, ⟨v, σ', H', J, r, q⟩ => exact ⟨v, H', J.os, J.bare, J.base, J.hok, r, q⟩
  | .next, ⟨σ', H', J, q⟩ => exact ⟨.non, H', J.os, J.bare, J.base, J.hok, rfl, q⟩
  | .brk, ⟨_, _, _, q⟩ => exact q.elim
  | .cont, ⟨_, _, _, q⟩ => exact q.elim
/-- a def without defaults -/
theorem okG {x qual : Str} {st : Stmt} {N : List Str} (F : Fun K x qual st f fd) (sc : FnScope N ps (defScope st)) (len : ∀ vs H Q E, sp vs H Q E → vs.length = ps.length)
    (h : ∀ (cdv : Value) (A : Around) (outer : List Env) (s : Shared) (H : Hp) (vs : List V) (Q : VK) (E : XK), A.guards = some [] → Room k (A.deeper (envOfC qual (defScope st) s.heap.objs.size f cdv)) → sp vs H Q E →
      ∃ t, PSs (cxOf (L2.CX P w) P w K mg base N qual (defScope st) f cdv A outer s H E) (defBody st) t ∧ t { nx := fun _ H' => Q .non H', rt := Q } (start N vs) H) : FnG P w K mg base (L2.CX P w) (k + 1) f fd ps sp := by
  (obtain ⟨oc, od, kV, doc, pm, an, cdv, ct, osl, rfl, lk, hcd⟩ := F.ex)
  refine ⟨len, fun A outer s H args us vs Q E hg hr e0 hb r hs => ?_⟩
  obtain ⟨t, h1, h2⟩ := h cdv A outer s H vs Q E hg (hr.deeper _) hs
  exact run_def lk hcd sc hr e0 hb r (len _ _ _ _ hs) h1 h2
/-- a def with defaults -/
theorem okGD {x qual : Str} {params : Arguments} {body : List Stmt} {scope : Scope} {dvs : List V} {kws : List (Str × V)} {N : List Str} (F : FunD K x qual params body scope dvs kws f fd) (sc : FnScope N ps scope) (len : ∀ vs H Q E, sp vs H Q E → vs.length = ps.length)
    (h : ∀ (cdv : Value) (A : Around) (outer : List Env) (s : Shared) (H : Hp) (vs : List V) (Q : VK) (E : XK), A.guards = some [] → Room k (A.deeper (envOfC qual scope s.heap.objs.size f cdv)) → sp vs H Q E →
      ∃ t, PSs (cxOf (L2.CX P w) P w K mg base N qual scope f cdv A outer s H E) body t ∧ t { nx := fun _ H' => Q .non H', rt := Q } (start N vs) H) : FnG P w K mg base (L2.CX P w) (k + 1) f fd ps sp := by
  (obtain ⟨oc, od, dV, kV, doc, pm, an, cdv, ct, osl, rfl, lk, hcd, _, _⟩ := F.ex)
  refine ⟨len, fun A outer s H args us vs Q E hg hr e0 hb r hs => ?_⟩
  obtain ⟨t, h1, h2⟩ := h cdv A outer s H vs Q E hg (hr.deeper _) hs
  exact run_def lk hcd sc hr e0 hb r (len _ _ _ _ hs) h1 h2
end
/-- what is wished of a callee's exception leans on the slots -/
def tCallX (sp : Sp) (dvs : List V) (E : L2.St → XK) (t : TA) : TE := fun σ H Q => t σ H fun vs H1 => sp (vs ++ dvs) H1 Q (E σ)
def tCallNX (n m : Nat) (sp : Sp) (gV : List V → List V → List V) (E : L2.St → XK) (t tk : TA) : TE := fun σ H Q => t σ H fun vs H1 => tk σ H1 fun zs H2 => vs.length = n ∧ zs.length = m ∧ sp (gV vs zs) H2 Q (E σ)
theorem takes_no {X : Cx} : Takes X noW := takes_none5
section
variable {X : Cx} {CX : CXT} {k n : Nat} {f : Addr} {fd : FuncData} {ps ks : List Str} {sp : Sp} {dvs : List V} {ds : List Value} {E : L2.St → XK} {x : Str} {p pos : Pos} {e : Expr} {es : List Expr} {kws : List Keyword} {t tk : TA} {g : List Value → List Value → List Value} {gV : List V → List V → List V}
theorem ret_of {pins : List (Addr × Obj)} {σ : L2.St} {H : Hp} {s : Shared} {Q : VK} {E : XK} (hx : PassesAt CX X σ E) (I : Inv X pins σ H s) : ∀ (r : Result) (s' : Shared), CR CX X.stack X.prog X.w H s Q E r s' →
    (match r with
      | .ok (.ret u) => EP X pins σ Q u s'
      | .error e => X.xe e s'
      | _ => False)
  | .error e, s', h => hx pins H s e s' I h
  | .ok (.ret u), s', h => I.after h
  | .ok .next, _, h => h.elim
  | .ok .brk, _, h => h.elim
  | .ok .cont, _, h => h.elim
theorem ran {pins : List (Addr × Obj)} {σ : L2.St} {H : Hp} {s : Shared} {Q : VK} {us : List Value} {kw : List (Str × Value)} {E : XK} (hx : PassesAt CX X σ E) (I : Inv X pins σ H s)
    (h : codeAny (model X.prog X.w) X.A (.call (.ref f) ⟨us, kw⟩) (CR CX X.stack X.prog X.w H s Q E) s) : wpAny (model X.prog X.w) X.A (call (.ref f) us kw) (EP X pins σ Q) X.xe s := by
  refine wpAny_call (codeAny_mono h fun r s' hq => ?_)
  have q := ret_of hx I r s' hq
  match r, q with
  | .error e, q => exact q
  | .ok (.ret u), q => exact q
/-- f(e, ..) -/
theorem pe_callG (F : FnG X.prog X.w X.K X.mg X.base CX k f fd ps sp) (hgd : X.A.guards = some []) (hr : Room k X.A) (hm : X.mg x = some (.ref f)) (hk : PySem.W.keepIn X.K (.ref f) = true) (hb : Binds X.K fd ps ds) (hd : Vals dvs ds) (hx : ∀ σ, PassesAt CX X σ (E σ))
    (ha : PA X (e :: es) t) (hg : Gl X x := by rfl) (hdb : (x == ("__debug__" : Str)) = false := by decide) (hs : starEach (e :: es) X.env = (false, eval e X.env) :: starEach es X.env := by rfl)
    (hpl : (backTo pos (starEach es X.env)).any (·.1) = false := by rfl) : PE X (.Call (.Name x p) (e :: es) [] pos) (tCallX sp dvs E t) := by
  constructor
  intro pins s σ H Q I h
  refine wpAny_Call_Name_kw (ld_glob I hg hm (PySem.W.callWith_K (h₀ := X.base) I.ok.mod.kin hk (thn (ha.run pos pins s σ H _ I h) ?_) hs hpl) hdb)
  rintro us s1 ⟨vs, H1, I1, r, q⟩
  have rr : Vals (vs ++ dvs) (us ++ ds) := r.append hd
  have hl : (us ++ ds).length = ps.length := rr.length.symm.trans (F.len _ _ _ _ q)
  exact ⟨I1.kIn, ran (hx σ) I1 (F.go X.A X.stack s1 H1 ⟨us, []⟩ (us ++ ds) (vs ++ dvs) Q (E σ) hgd hr I1.env0 (hb s1 us I1.kIn hl) rr q)⟩
/-- f() -/
theorem pe_callG0 (F : FnG X.prog X.w X.K X.mg X.base CX k f fd ps sp) (hgd : X.A.guards = some []) (hr : Room k X.A) (hm : X.mg x = some (.ref f)) (hk : PySem.W.keepIn X.K (.ref f) = true) (hb : Binds X.K fd ps ds) (hd : Vals dvs ds) (hx : ∀ σ, PassesAt CX X σ (E σ))
    (hg : Gl X x := by rfl) (hdb : (x == ("__debug__" : Str)) = false := by decide) : PE X (.Call (.Name x p) [] [] pos) (tCallX sp dvs E tNil) := by
  constructor
  intro pins s σ H Q I h
  have q : sp ([] ++ dvs) H Q (E σ) := h
  have hl : (([] : List Value) ++ ds).length = ps.length := hd.length.symm.trans (F.len _ _ _ _ q)
  exact wpAny_Call_Name_kw (ld_glob I hg hm (PySem.W.callWith_K0 I.kIn hk (ran (hx σ) I (F.go X.A X.stack s H ⟨[], []⟩ ([] ++ ds) ([] ++ dvs) Q (E σ) hgd hr I.env0 (hb s [] I.kIn hl) hd q))) hdb)
/-- f(e, .., k = v, ..) -/
theorem pe_callKG (F : FnG X.prog X.w X.K X.mg X.base CX k f fd ps sp) (hgd : X.A.guards = some []) (hr : Room k X.A) (hm : X.mg x = some (.ref f)) (hk : PySem.W.keepIn X.K (.ref f) = true) (hb : KBn X.K fd ps n ks g gV) (hx : ∀ σ, PassesAt CX X σ (E σ))
    (ha : PA X (e :: es) t) (hkw : PK X kws tk) (hg : Gl X x := by rfl) (hall : (backToKw pos (keywordEach kws X.env)).all (·.1.isSome) = true := by rfl) (hks : (backToKw pos (keywordEach kws X.env)).filterMap (·.1) = ks := by rfl)
    (hdb : (x == ("__debug__" : Str)) = false := by decide) (hs : starEach (e :: es) X.env = (false, eval e X.env) :: starEach es X.env := by rfl)
    (hpl : ((backTo pos
          (starEach (e :: es) X.env)).any (·.1) || (backToKw pos (keywordEach kws X.env)).any (·.1.isNone)) = false := by rfl) :
    PE X (.Call (.Name x p) (e :: es) kws pos) (tCallNX n ks.length sp gV E t tk) := by
  constructor
  intro pins s σ H Q I h
  refine wpAny_Call_Name_kw (ld_glob I hg hm (PySem.W.callWith_KW (h₀ := X.base) I.ok.mod.kin hk hall (thn (ha.run pos pins s σ H _ I h) ?_) hpl hs) hdb)
  rintro us s1 ⟨vs, H1, I1, r, q⟩
  refine thn (hkw.run pos pins s1 σ H1 _ I1 q) ?_
  rintro ws s2 ⟨zs, H2, I2, rz, l1, l2, q2⟩
  rw [hks]
  have r2 := hb.rel r rz
  exact ⟨I2.kIn, ran (hx σ) I2 (F.go X.A X.stack s2 H2 ⟨us, ks.zip ws⟩ (g us ws) (gV vs zs) Q (E σ) hgd hr I2.env0 (hb.to s2 us ws I2.kIn (r.length.symm.trans l1) (rz.length.symm.trans l2)) r2 q2)⟩
end
/-! ### promises by functions of the data -/
abbrev FnD := List D → M D
/-- a call's end: the value; the exception -/
def FinX (K : PySem.W.Frag) (cl : Cl) (O : List Addr) (H : Hp) (E : XK) (e : Ex) : Prop := ∀ cls d H', Same H H' → ExAt K cl O H' e cls d → E cls d H'
def FinD (K : PySem.W.Frag) (cl : Cl) (O : List Addr) (H : Hp) (Q : VK) (E : XK) : M D → Prop
  | some (.ok r) => ∀ v H', Same H H' → Rp K cl (hide O H') v r → Q v H'
  | some (.ex e _) => FinX K cl O H E e
  | none => False
/-- a def that changes nothing: its value by the data of its arguments -/
def spP (K : PySem.W.Frag) (cl : Cl) (n : Nat) (f : FnD) : Sp := fun vs H Q E => vs.length = n ∧ ∃ (O : List Addr) (ds : List D), (∀ a ∈ O, H a ≠ none) ∧ RpA K cl (hide O H) vs ds ∧ FinD K cl O H Q E (f ds)
/-- .. that makes a new list or dict -/
def spF (K : PySem.W.Frag) (cl : Cl) (n : Nat) (f : FnD) : Sp := fun vs H Q E => vs.length = n ∧ ∃ (O : List Addr) (ds : List D), (∀ a ∈ O, H a ≠ none) ∧ RpA K cl (hide O H) vs ds ∧
  (match f ds with
    | some (.ok r) => ∀ p H', Same H H' → H p = none → OwnAt K cl H (p :: O) H' p r → Q (.ref p) H'
    | some (.ex e _) => FinX K cl O H E e
    | none => False)
/-- .. that changes its first argument (an exception may leave it changed: the new content stands in the exception's state) -/
def spI (K : PySem.W.Frag) (cl : Cl) (n : Nat) (f : D → List D → M (D × D)) : Sp := fun vs H Q E => vs.length = n ∧ ∃ (O : List Addr) (a : Addr) (d : D) (ws : List V) (ds : List D), vs = .ref a :: ws ∧ (∀ b ∈ O, H b ≠ none) ∧ a ∈ O ∧ OwnAt K cl H O H a d ∧ RpA K cl (hide O H) ws ds ∧
  (match f d ds with
    | some (.ok (r, d')) => ∀ v H', (∀ b o, b ≠ a → H b = some o → H' b = some o) → OwnAt K cl H O H' a d' → Rp K cl (hide O H') v r → Q v H'
    | some (.ex e [.val d']) => ∀ cls d H', (∀ b o, b ≠ a → H b = some o → H' b = some o) → OwnAt K cl H O H' a d' → ExAt K cl O H' e cls d → E cls d H'
    | _ => False)
/-- a def's data from its body's -/
def runP (n : Nat) (F : S → M Out) : FnD := fun ds => bd (F (ds.map Sl.val ++ List.replicate (n - ds.length) Sl.un)) fun (o : Out) => match o with
  | .nx _ => ok .non
  | .rt d _ => ok d
  | .rf d _ => ok d
  | _ => none
def runF (n : Nat) (F : S → M Out) : FnD := fun ds => bd (F (ds.map Sl.val ++ List.replicate (n - ds.length) Sl.un)) fun (o : Out) => match o with
  | .rf d _ => ok d
  | _ => none
def exI {α : Type} (m : M α) : M α := match m with
  | some (.ex e s) => match s[0]? with
    | some (Sl.io d') => some (.ex e [.val d'])
    | _ => none
  | m => m
theorem exI_ok {α : Type} (a : α) : exI (ok a) = ok a := by
  have h : exI (ok a) = ok a := rfl
  exact h
def runI (n : Nat) (F : S → M Out) : D → List D → M (D × D) := fun d ds => bd (exI (F (.io d :: (ds.map Sl.val ++ List.replicate (n - (ds.length + 1)) Sl.un)))) fun (o : Out) => match o with
  | .nx s => match s[0]? with
    | some (Sl.io d') => ok (.non, d')
    | _ => none
  | .rt r s => match s[0]? with
    | some (Sl.io d') => ok (r, d')
    | _ => none
  | _ => none
section
variable {K : PySem.W.Frag} {cl : Cl} {wx : WX} {n : Nat} {H : Hp} {vs : List V} {ds : List D} {O : List Addr}
theorem start_len (N : List Str) (vs : List V) : (start N vs).length = vs.length + (N.length - vs.length) := by
  unfold L2.start
  (rw [List.length_append, List.length_map, List.length_replicate])
/-- the state at the entry -/
theorem wl_start (N : List Str) (al : ∀ a ∈ O, H a ≠ none) (r : RpA K cl (hide O H) vs ds) : Wl K cl ⟨O, [], 0, H⟩ [] (ds.map Sl.val ++ List.replicate (N.length - ds.length) Sl.un) (start N vs) H := by
  have e := r.len
  refine ⟨fun _ _ _ e => e, fun a h => by simp at h, fun a h => al a (by simpa using h), fun a h => by simp at h, fun a h => by simp at h, ⟨fun i d q => ?_, fun i d q => ?_, fun i d q => ?_, fun i j d d' a q => ?_, fun i j d d' q => ?_, ?_⟩⟩
  · by_cases hi : i < ds.length
    · rw [List.getElem?_append_left (by simpa using hi), List.getElem?_map] at q
      cases z : ds[i]? with
      | none => rw [z] at q; cases q
      | some d2 =>
        rw [z] at q
        cases q
        obtain ⟨v, h1, h2⟩ := r.get i z
        refine ⟨v, ?_, h2⟩
        unfold L2.start
        rw [List.getElem?_append_left (by rw [List.length_map]; omega), List.getElem?_map, h1]
        rfl
    · rw [List.getElem?_append_right (by simpa using hi), List.getElem?_replicate] at q
      split at q <;> cases q
  all_goals first
    | (by_cases hi : i < ds.length
       · rw [List.getElem?_append_left (by simpa using hi), List.getElem?_map] at q
         cases z : ds[i]? with
         | none => rw [z] at q; cases q
         | some d2 => rw [z] at q; cases q
       · rw [List.getElem?_append_right (by simpa using hi), List.getElem?_replicate] at q
         split at q <;> cases q)
    | (rw [start_len, List.length_append, List.length_map, List.length_replicate, e])
/-- what the def wishes of its exceptions -/
abbrev wxE (E : XK) : WX := fun cls d _ H => E cls d H
theorem wish_of {E : XK} {e : Ex} {s : S} (h : FinX K cl O H E e) : Wish K cl (wxE E) ⟨O, [], 0, H⟩ e s := fun L σ H1 cls d W x =>
  h cls d H1 (fun b o z => W.keep b o (by simp) z) (x.mono (hide_sub fun a ha => List.mem_append_right _ ha))
/-- a body that keeps to its data keeps the promise -/
theorem walkP {N : List Str} {X : Cx} {body : List Stmt} {ts : List Nat} {F : S → M Out} {Q : VK} {E : XK} (hb : PSs X body (TSof K cl (wxE E) ts F)) (h : spP K cl n (runP N.length F) vs H Q E) : ∃ t, PSs X body t ∧ t { nx := fun _ H' => Q .non H', rt := Q } (start N vs) H := by
  refine ⟨_, hb, ?_⟩
  obtain ⟨_, O, ds, al, r, h⟩ := h
  refine ⟨_, [], _, wl_start N al r, ?_⟩
  unfold runP at h
  match (F (ds.map Sl.val ++ List.replicate (N.length - ds.length) Sl.un) : M Out), h with
  | none, h => exact h.elim
  | some (.ex _ _), h => exact wish_of h
  | some (.ok (.nx s)), h => exact fun L' σ' H' a b c => h .non H' (fun b o e => a.keep b o (by simp) (by simp) e) .non
  | some (.ok (.rt d s)), h => exact fun L' σ' H' v a b c => h v H' (fun b o e => a.keep b o (by simp) (by simp) e) c
  | some (.ok (.rf d s)), h => exact fun L' σ' H' p a b c d e => h (.ref p) H' (fun b o e => a.keep b o (by simp) (by simp) e) (e.rp d (hide_sub fun x hx => List.mem_cons_of_mem _ hx))
theorem walkF {N : List Str} {X : Cx} {body : List Stmt} {ts : List Nat} {F : S → M Out} {Q : VK} {E : XK} (hb : PSs X body (TSof K cl (wxE E) ts F)) (h : spF K cl n (runF N.length F) vs H Q E) : ∃ t, PSs X body t ∧ t { nx := fun _ H' => Q .non H', rt := Q } (start N vs) H := by
  refine ⟨_, hb, ?_⟩
  obtain ⟨_, O, ds, al, r, h⟩ := h
  refine ⟨_, [], _, wl_start N al r, ?_⟩
  unfold runF at h
  match (F (ds.map Sl.val ++ List.replicate (N.length - ds.length) Sl.un) : M Out), h with
  | none, h => exact h.elim
  | some (.ex _ _), h => exact wish_of h
  | some (.ok (.rf d s)), h => exact fun L' σ' H' p a b c d e => h p H' (fun b o e => a.keep b o (by simp) (by simp) e) c e
/-- the state at the entry, the first argument is changed for the caller -/
theorem wl_startI {a : Addr} {d : D} {ws : List V} (N : List Str) (hN : vs.length ≤ N.length) (e0 : vs = .ref a :: ws) (al : ∀ b ∈ O, H b ≠ none) (ha : a ∈ O) (ho : OwnAt K cl H O H a d) (r : RpA K cl (hide O H) ws ds) :
    Wl K cl ⟨O, [a], a, H⟩ [] (.io d :: (ds.map Sl.val ++ List.replicate (N.length - (ds.length + 1)) Sl.un)) (start N vs) H := by
  have e := r.len
  have st : start N vs = some (.ref a) :: (ws.map some ++ List.replicate (N.length - (ds.length + 1)) none) := by
    unfold L2.start
    rw [e0, List.map_cons, List.length_cons, e]
    rfl
  have tl : ∀ {i : Nat} {x : Sl}, (ds.map Sl.val ++ List.replicate (N.length - (ds.length + 1)) Sl.un)[i]? = some x → x = .un ∨ ∃ d2, x = .val d2 ∧ ds[i]? = some d2 := fun {i x} q => by
    by_cases hi : i < ds.length
    · rw [List.getElem?_append_left (by simpa using hi), List.getElem?_map] at q
      cases z : ds[i]? with
      | none => rw [z] at q; cases q
      | some d2 => rw [z] at q; cases q; exact .inr ⟨d2, rfl, rfl⟩
    · rw [List.getElem?_append_right (by simpa using hi), List.getElem?_replicate] at q
      split at q
      · cases q; exact .inl rfl
      · cases q
  refine ⟨fun _ _ _ e => e, fun a h => by simp at h, fun b h => al b (by simpa using h), fun a h => by simp at h, fun b h => by
    have : b = a := by simpa using h
    rw [this]; exact ha, ⟨fun i d' q => ?_, fun i d' q => ?_, fun i d' q => ?_, fun i j d1 d2 b q1 q2 => ?_, fun i j d1 d2 q1 q2 => ?_, ?_⟩⟩
  · cases i with
    | zero => cases q
    | succ i =>
      rw [List.getElem?_cons_succ] at q
      rcases tl q with z | ⟨d2, z, z2⟩
      · cases z
      · cases z
        obtain ⟨v, h1, h2⟩ := r.get i z2
        refine ⟨v, ?_, h2⟩
        have hi := (List.getElem?_eq_some_iff.mp h1).1
        rw [st, List.getElem?_cons_succ, List.getElem?_append_left (by rw [List.length_map]; exact hi), List.getElem?_map, h1]
        rfl
  · cases i with
    | zero => cases q
    | succ i =>
      rw [List.getElem?_cons_succ] at q
      rcases tl q with z | ⟨d2, z, z2⟩ <;> cases z
  · cases i with
    | zero =>
      cases q
      exact ⟨by rw [st]; rfl, by simp, ho⟩
    | succ i =>
      rw [List.getElem?_cons_succ] at q
      rcases tl q with z | ⟨d2, z, z2⟩ <;> cases z
  · cases i with
    | zero => cases q1
    | succ i =>
      rw [List.getElem?_cons_succ] at q1
      rcases tl q1 with z | ⟨d2, z, z2⟩ <;> cases z
  · cases i with
    | zero =>
      cases j with
      | zero => rfl
      | succ j =>
        rw [List.getElem?_cons_succ] at q2
        rcases tl q2 with z | ⟨d2, z, z2⟩ <;> cases z
    | succ i =>
      rw [List.getElem?_cons_succ] at q1
      rcases tl q1 with z | ⟨d2, z, z2⟩ <;> cases z
  · rw [st, List.length_cons, List.length_cons, List.length_append, List.length_append, List.length_map, List.length_map, List.length_replicate, List.length_replicate, e]
theorem walkI {N : List Str} {X : Cx} {body : List Stmt} {ts : List Nat} {F : S → M Out} {Q : VK} {E : XK} (hN : n ≤ N.length) (hb : PSs X body (TSof K cl (wxE E) ts F)) (h : spI K cl n (runI N.length F) vs H Q E) : ∃ t, PSs X body t ∧ t { nx := fun _ H' => Q .non H', rt := Q } (start N vs) H := by
  refine ⟨_, hb, ?_⟩
  obtain ⟨hn, O, a, d, ws, ds, e0, al, ha, ho, r, h⟩ := h
  refine ⟨_, [], _, wl_startI N (by omega) e0 al ha ho r, ?_⟩
  have fin : ∀ {L' s σ' H' d'}, Wl K cl ⟨O, [a], a, H⟩ L' s σ' H' → s[0]? = some (.io d') → OwnAt K cl H O H' a d' := fun {L' s σ' H' d'} W e => (W.st.io 0 d' e).2.2.move rfl (hide_sub fun x hx => List.mem_append_right _ hx)
  have kp : ∀ {L' H'}, Step ⟨O, [a], a, H⟩ [] H L' H' → ∀ b o, b ≠ a → H b = some o → H' b = some o := fun st b o n e => st.keep b o (by simp) (by simpa using n) e
  unfold runI at h
  match (F (.io d :: (ds.map Sl.val ++ List.replicate (N.length - (ds.length + 1)) Sl.un)) : M Out), h with
  | none, h => exact h.elim
  | some (.ex e s), h =>
    intro L σ1 H1 cls d1 W x
    have h : (match (bd (exI (some (.ex e s) : M Out)) fun (o : Out) => (match o with
      | .nx s => match s[0]? with
        | some (Sl.io d') => ok (D.non, d')
        | _ => none
      | .rt r s => match s[0]? with
        | some (Sl.io d') => ok (r, d')
        | _ => none
      | _ => none : M (D × D))) with
      | some (.ok (r, d')) => ∀ v H', (∀ b o, b ≠ a → H b = some o → H' b = some o) → OwnAt K cl H O H' a d' → Rp K cl (hide O H') v r → Q v H'
      | some (.ex e [.val d']) => ∀ cls d H', (∀ b o, b ≠ a → H b = some o → H' b = some o) → OwnAt K cl H O H' a d' → ExAt K cl O H' e cls d → E cls d H'
      | _ => False) := h
    unfold exI at h
    dsimp only at h
    cases q : s[0]? with
    | none => rw [q] at h; exact h.elim
    | some y =>
      rw [q] at h
      match y, q, h with
      | .io d', q, h => exact h cls d1 H1 (fun b o n z => W.keep b o (by simpa using n) z) (fin W q) (x.mono (hide_sub fun a ha => List.mem_append_right _ ha))
      | .own _, q, h => exact h.elim
      | .val _, q, h => exact h.elim
      | .un, q, h => exact h.elim
  | some (.ok (.nx s)), h =>
    intro L' σ' H' st W _
    have h : (match (match s[0]? with
        | some (Sl.io d') => ok (D.non, d')
        | _ => none : M (D × D)) with
      | some (.ok (r, d')) => ∀ v H', (∀ b o, b ≠ a → H b = some o → H' b = some o) → OwnAt K cl H O H' a d' → Rp K cl (hide O H') v r → Q v H'
      | some (.ex e [.val d']) => ∀ cls d H', (∀ b o, b ≠ a → H b = some o → H' b = some o) → OwnAt K cl H O H' a d' → ExAt K cl O H' e cls d → E cls d H'
      | _ => False) := h
    cases q : s[0]? with
    | none => rw [q] at h; exact h.elim
    | some y =>
      rw [q] at h
      match y, q, h with
      | .io d', q, h => exact h .non H' (kp st) (fin W q) .non
      | .own _, q, h => exact h.elim
      | .val _, q, h => exact h.elim
      | .un, q, h => exact h.elim
  | some (.ok (.rt rd s)), h =>
    intro L' σ' H' v st W rr
    have h : (match (match s[0]? with
        | some (Sl.io d') => ok (rd, d')
        | _ => none : M (D × D)) with
      | some (.ok (r, d')) => ∀ v H', (∀ b o, b ≠ a → H b = some o → H' b = some o) → OwnAt K cl H O H' a d' → Rp K cl (hide O H') v r → Q v H'
      | some (.ex e [.val d']) => ∀ cls d H', (∀ b o, b ≠ a → H b = some o → H' b = some o) → OwnAt K cl H O H' a d' → ExAt K cl O H' e cls d → E cls d H'
      | _ => False) := h
    cases q : s[0]? with
    | none => rw [q] at h; exact h.elim
    | some y =>
      rw [q] at h
      match y, q, h with
      | .io d', q, h => exact h v H' (kp st) (fin W q) rr
      | .own _, q, h => exact h.elim
      | .val _, q, h => exact h.elim
      | .un, q, h => exact h.elim
end
end Dt
namespace Dt
open L2 PySem PySem.Spec PyProof.Rows
/-! ### calls of the text's own defs -/
def dCallU (n : Nat) (g : FnD) (dd : List D) (fr : S → M (List D × S)) : S → M (D × S) := fun s => bd (fr s) fun p => if (p.1 ++ dd).length = n then bdC (g (p.1 ++ dd)) p.2 fun r => ok (r, p.2) else none
def dCallK (n a b : Nat) (g : FnD) (gD : List D → List D → List D) (fr fk : S → M (List D × S)) : S → M (D × S) := fun s => bd (fr s) fun p => bd (fk p.2) fun q =>
  if p.1.length = a ∧ q.1.length = b ∧ (gD p.1 q.1).length = n then bdC (g (gD p.1 q.1)) q.2 fun r => ok (r, q.2) else none
/-- the argument's new content is put back, an exception's too -/
def bdI (m : M (D × D)) (s : S) (i : Nat) : M (D × S) := match m with
  | some (.ok q) => ok (q.1, putD s i q.2)
  | some (.ex e [.val d']) => some (.ex e (putD s i d'))
  | _ => none
theorem bdI_ok (q : D × D) (s : S) (i : Nat) : bdI (ok q) s i = ok (q.1, putD s i q.2) := by
  have h : bdI (ok q) s i = ok (q.1, putD s i q.2) := rfl
  exact h
theorem bdC_ok {α β : Type} (a : α) (s : S) (f : α → M β) : bdC (ok a) s f = f a := by
  have h : bdC (ok a) s f = f a := rfl
  exact h
def dCallI (i n : Nat) (g : D → List D → M (D × D)) (fr : S → M (List D × S)) : S → M (D × S) := fun s => match ownD s[i]? with
  | some _ => bd (fr s) fun p => match ownD p.2[i]? with
    | some d => if p.1.length + 1 = n ∧ d.isReg = false then bdI (g d p.1) p.2 i else none
    | none => none
  | none => none
section
variable {X : Cx} {CX : CXT} {k n m : Nat} {f : Addr} {fd : FuncData} {ps ks : List Str} {dvs : List V} {ds : List Value} {dd : List D} {x : Str} {p pos : Pos} {e : Expr} {es : List Expr} {kws : List Keyword} {cl : Cl} {wx : WX} {fr fk : S → M (List D × S)} {g : FnD} {gI : D → List D → M (D × D)}
  {gv : List Value → List Value → List Value} {gV : List V → List V → List V} {gD : List D → List D → List D}
theorem Step.old {w : Wf} {L L' : List Addr} {H H' : Hp} (st : Step w L H L' H') {b : Addr} (h : H' b = none) : H b = none := by
  cases q : H b with
  | none => rfl
  | some o => exact absurd h (st.alv b (by rw [q]; simp))
theorem PostE.finC {K : PySem.W.Frag} {w : Wf} {L : List Addr} {σ : L2.St} {H H2 : Hp} {Q : VK} {s2 : S} {mm : M D} (h : PostE K cl wx w L σ H Q (bdC mm s2 fun r => ok (r, s2))) (st : Step w L H L H2) (W : Wl K cl w L s2 σ H2) : FinD K cl (L ++ w.O0) H2 Q (WE wx σ) mm := by
  match mm, h with
  | none, h => exact h.elim
  | some (.ex e s'), h => exact fun cls d H' sm x => h L σ H' cls d (W.ext sm) x
  | some (.ok r), h => exact fun v H3 sm rp => h v H3 (st.trans (.of_same sm)) (W.ext sm) rp
theorem call_readP (hdd : ∀ H : Hp, RpA X.K cl H dvs dd) : ∀ σ H Q, TEof X.K cl wx (dCallU n g dd fr) σ H Q → tCallX (spP X.K cl n g) dvs (WE wx) (TAof X.K cl wx fr) σ H Q := by
  rintro σ H Q ⟨w, L, sd, W, h⟩
  refine ⟨w, L, sd, W, PostA.bd botE h fun rs s1 h vs H1 st1 W1 rrs => ?_⟩
  dsimp only at h
  split at h
  · next c =>
    have rr := rrs.append (hdd (hide (L ++ w.O0) H1))
    exact ⟨rr.len.trans c, L ++ w.O0, _, W1.alive, rr, h.finC st1 W1⟩
  · exact h.elim
theorem d_call (F : FnG X.prog X.w X.K X.mg X.base (L2.CX X.prog X.w) k f fd ps (spP X.K cl n g)) (hgd : X.A.guards = some []) (hr : Room k X.A) (hm : X.mg x = some (.ref f)) (hk : PySem.W.keepIn X.K (.ref f) = true) (hb : Binds X.K fd ps ds) (hd : Vals dvs ds) (hdd : ∀ H : Hp, RpA X.K cl H dvs dd)
    (ha : PA X (e :: es) (TAof X.K cl wx fr)) (hg : Gl X x := by rfl) (hdb : (x == ("__debug__" : Str)) = false := by decide) (hs : starEach (e :: es) X.env = (false, eval e X.env) :: starEach es X.env := by rfl)
    (hpl : (backTo pos (starEach es X.env)).any (·.1) = false := by rfl) (tk : Takes X wx := by first | assumption | exact takes_no) : PE X (.Call (.Name x p) (e :: es) [] pos) (TEof X.K cl wx (dCallU n g dd fr)) :=
  iE (pe_callG F hgd hr hm hk hb hd (fun σ => passAt tk σ) ha hg hdb hs hpl) (call_readP hdd)
theorem d_call0 (F : FnG X.prog X.w X.K X.mg X.base (L2.CX X.prog X.w) k f fd ps (spP X.K cl n g)) (hgd : X.A.guards = some []) (hr : Room k X.A) (hm : X.mg x = some (.ref f)) (hk : PySem.W.keepIn X.K (.ref f) = true) (hb : Binds X.K fd ps ds) (hd : Vals dvs ds) (hdd : ∀ H : Hp, RpA X.K cl H dvs dd)
    (hg : Gl X x := by rfl) (hdb : (x == ("__debug__" : Str)) = false := by decide) (tk : Takes X wx := by first | assumption | exact takes_no) : PE X (.Call (.Name x p) [] [] pos) (TEof X.K cl wx (dCallU n g dd aNil)) := by
  refine iE (pe_callG0 F hgd hr hm hk hb hd (fun σ => passAt tk σ) hg hdb) fun σ H Q h => ?_
  obtain ⟨w, L, sd, W, h⟩ := h
  unfold dCallU at h
  have h : PostE X.K cl wx w L σ H Q (if dd.length = n then bdC (g dd) sd fun r => ok (r, sd) else none) := h
  split at h
  · next c => exact ⟨(hdd H).len.trans c, L ++ w.O0, dd, W.alive, hdd _, h.finC .refl W⟩
  · exact h.elim
theorem call_readK (hgV : ∀ (H : Hp) vs zs as bs, RpA X.K cl H vs as → RpA X.K cl H zs bs → RpA X.K cl H (gV vs zs) (gD as bs)) {a b : Nat} : ∀ σ H Q, TEof X.K cl wx (dCallK n a b g gD fr fk) σ H Q → tCallNX a b (spP X.K cl n g) gV (WE wx) (TAof X.K cl wx fr) (TAof X.K cl wx fk) σ H Q := by
  rintro σ H Q ⟨w, L, sd, W, h⟩
  refine ⟨w, L, sd, W, PostA.bd botE h fun rs s1 h vs H1 st1 W1 rrs => ?_⟩
  refine ⟨w, L, s1, W1, PostA.bd botE h fun qs s2 h zs H2 st2 W2 rqs => ?_⟩
  dsimp only at h
  split at h
  · next c =>
    have r1 := rrs.mono (st2.sn W2)
    have rr := hgV _ _ _ _ _ r1 rqs
    exact ⟨r1.len.trans c.1, rqs.len.trans c.2.1, rr.len.trans c.2.2, L ++ w.O0, _, W2.alive, rr, h.finC (st1.trans st2) W2⟩
  · exact h.elim
theorem d_callK (F : FnG X.prog X.w X.K X.mg X.base (L2.CX X.prog X.w) k f fd ps (spP X.K cl n g)) (hgd : X.A.guards = some []) (hr : Room k X.A) (hm : X.mg x = some (.ref f)) (hk : PySem.W.keepIn X.K (.ref f) = true) (hb : KBn X.K fd ps m ks gv gV)
    (hgV : ∀ (H : Hp) vs zs as bs, RpA X.K cl H vs as → RpA X.K cl H zs bs → RpA X.K cl H (gV vs zs) (gD as bs)) (ha : PA X (e :: es) (TAof X.K cl wx fr)) (hkw : PK X kws (TAof X.K cl wx fk)) (hg : Gl X x := by rfl)
    (hall : (backToKw pos (keywordEach kws X.env)).all (·.1.isSome) = true := by rfl) (hks : (backToKw pos (keywordEach kws X.env)).filterMap (·.1) = ks := by rfl)
    (hdb : (x == ("__debug__" : Str)) = false := by decide) (hs : starEach (e :: es) X.env = (false, eval e X.env) :: starEach es X.env := by rfl)
    (hpl : ((backTo pos (starEach (e :: es) X.env)).any (·.1) || (backToKw pos (keywordEach kws X.env)).any (·.1.isNone)) = false := by rfl) (tk : Takes X wx := by first | assumption | exact takes_no) :
    PE X (.Call (.Name x p) (e :: es) kws pos) (TEof X.K cl wx (dCallK n m ks.length g gD fr fk)) :=
  iE (pe_callKG F hgd hr hm hk hb (fun σ => passAt tk σ) ha hkw hg hall hks hdb hs hpl) (call_readK hgV)
/-- f(k = v, ..) -/
theorem d_callK0 (F : FnG X.prog X.w X.K X.mg X.base (L2.CX X.prog X.w) k f fd ps (spP X.K cl n g)) (hgd : X.A.guards = some []) (hr : Room k X.A) (hm : X.mg x = some (.ref f)) (hk : PySem.W.keepIn X.K (.ref f) = true) (hb : KBn X.K fd ps 0 ks gv gV)
    (hgV : ∀ (H : Hp) vs zs as bs, RpA X.K cl H vs as → RpA X.K cl H zs bs → RpA X.K cl H (gV vs zs) (gD as bs)) (hkw : PK X kws (TAof X.K cl wx fk)) (hg : Gl X x := by rfl)
    (hall : (backToKw pos (keywordEach kws X.env)).all (·.1.isSome) = true := by rfl) (hks : (backToKw pos (keywordEach kws X.env)).filterMap (·.1) = ks := by rfl)
    (hdb : (x == ("__debug__" : Str)) = false := by decide)
    (hpl : ((backTo pos (starEach [] X.env)).any (·.1) || (backToKw pos (keywordEach kws X.env)).any (·.1.isNone)) = false := by rfl) (tk : Takes X wx := by first | assumption | exact takes_no) :
    PE X (.Call (.Name x p) [] kws pos) (TEof X.K cl wx (dCallK n 0 ks.length g gD aNil fk)) := by
  constructor
  intro pins s σ H Q I h
  obtain ⟨w, L, sd, W, h⟩ := h
  unfold dCallK at h
  have h : PostE X.K cl wx w L σ H Q (bd (fk sd) fun q => if ([] : List D).length = 0 ∧ q.1.length = ks.length ∧ (gD [] q.1).length = n then bdC (g (gD [] q.1)) q.2 fun r => ok (r, q.2) else none) := h
  refine wpAny_Call_Name_kw (ld_glob I hg hm (PySem.W.callWith_KW0 (h₀ := X.base) I.ok.mod.kin hk hall (thn (hkw.run pos pins s σ H (fun zs H2 => zs.length = ks.length ∧ spP X.K cl n g (gV [] zs) H2 Q (WE wx σ)) I ?_) ?_) hpl) hdb)
  · refine ⟨w, L, sd, W, PostA.bd botE h fun qs s2 h zs H2 st2 W2 rqs => ?_⟩
    dsimp only at h
    split at h
    · next c =>
      have rr := hgV (hide (L ++ w.O0) H2) [] zs [] qs .nil rqs
      exact ⟨rqs.len.trans c.2.1, rr.len.trans c.2.2, L ++ w.O0, _, W2.alive, rr, h.finC st2 W2⟩
    · exact h.elim
  · rintro ws s2 ⟨zs, H2, I2, rz, l2, q2⟩
    rw [hks]
    have r2 := hb.rel (vs := []) (us := []) .nil rz
    exact ⟨I2.kIn, ran (passAt tk σ) I2 (F.go X.A X.stack s2 H2 ⟨[], ks.zip ws⟩ (gv [] ws) (gV [] zs) Q (WE wx σ) hgd hr I2.env0 (hb.to s2 [] ws I2.kIn rfl (rz.length.symm.trans l2)) r2 q2)⟩
theorem k_nil {K : PySem.W.Frag} : PK X [] (TAof K cl wx aNil) := iK pk_nil nil_read
theorem k_cons {K : PySem.W.Frag} {nm : Option Str} {kpos : Pos} {fa : S → M (D × S)} (ha : PE X e (TEof K cl wx fa)) (hr : PK X kws (TAof K cl wx fr)) : PK X (⟨nm, e, kpos⟩ :: kws) (TAof K cl wx (aCons fa fr)) := iK (pk_cons ha hr) cons_read
/-- a call that makes a list -/
theorem f_call (F : FnG X.prog X.w X.K X.mg X.base (L2.CX X.prog X.w) k f fd ps (spF X.K cl n g)) (hgd : X.A.guards = some []) (hr : Room k X.A) (hm : X.mg x = some (.ref f)) (hk : PySem.W.keepIn X.K (.ref f) = true) (hb : Binds X.K fd ps ds) (hd : Vals dvs ds) (hdd : ∀ H : Hp, RpA X.K cl H dvs dd)
    (ha : PA X (e :: es) (TAof X.K cl wx fr)) (hg : Gl X x := by rfl) (hdb : (x == ("__debug__" : Str)) = false := by decide) (hs : starEach (e :: es) X.env = (false, eval e X.env) :: starEach es X.env := by rfl)
    (hpl : (backTo pos (starEach es X.env)).any (·.1) = false := by rfl) (tk : Takes X wx := by first | assumption | exact takes_no) : PE X (.Call (.Name x p) (e :: es) [] pos) (TFof X.K cl wx (dCallU n g dd fr)) := by
  refine iE (pe_callG F hgd hr hm hk hb hd (fun σ => passAt tk σ) ha hg hdb hs hpl) ?_
  rintro σ H Q ⟨w, L, sd, W, h⟩
  refine ⟨w, L, sd, W, PostA.bd botF h fun rs s1 h vs H1 st1 W1 rrs => ?_⟩
  dsimp only at h
  split at h
  · next c =>
    have rr := rrs.append (hdd (hide (L ++ w.O0) H1))
    refine ⟨rr.len.trans c, L ++ w.O0, _, W1.alive, rr, ?_⟩
    generalize g (rs ++ dd) = mm at h
    match mm, h with
    | none, h => exact h.elim
    | some (.ex _ _), h => exact fun cls d H' sm x => h L σ H' cls d (W1.ext sm) x
    | some (.ok r), h =>
      intro p H' sm np ho
      have st2 : Step w L H1 (p :: L) H' := ⟨fun b o _ _ e => sm b o e, (Step.of_same (w := w) (L := L) sm).alv, fun a ha => by
        (rcases List.mem_cons.mp ha with rfl | ha)
        · exact .inr np
        · exact .inl ha⟩
      exact h p H' (st1.trans st2) (W1.new_ne np) (W1.ext sm) (W1.made sm np ho.some) (ho.old fun _ z => st1.old z)
  · exact h.elim
/-- a call that changes its first argument, an own list -/
theorem d_callI (i : Nat) {y : Str} {py : Pos} (F : FnG X.prog X.w X.K X.mg X.base (L2.CX X.prog X.w) k f fd ps (spI X.K cl n gI)) (hgd : X.A.guards = some []) (hr : Room k X.A) (hm : X.mg x = some (.ref f)) (hk : PySem.W.keepIn X.K (.ref f) = true) (hb : Binds X.K fd ps [])
    (ha : PA X es (TAof X.K cl wx fr)) (hN : X.N[i]? = some y := by rfl) (hv : Vis X.env.scope y := by first | exact Or.inl rfl | exact Or.inr (Or.inl rfl) | exact Or.inr (Or.inr rfl))
    (hyd : (y == ("__debug__" : Str)) = false := by decide) (hcd : (y == ("__classdict__" : Str)) = false := by decide) (hg : Gl X x := by rfl) (hdb : (x == ("__debug__" : Str)) = false := by decide)
    (hs : starEach (.Name y py :: es) X.env = (false, eval (.Name y py) X.env) :: starEach es X.env := by rfl)
    (hpl : (backTo pos (starEach es X.env)).any (·.1) = false := by rfl) (tk : Takes X wx := by first | assumption | exact takes_no) : PE X (.Call (.Name x p) (.Name y py :: es) [] pos) (TEof X.K cl wx (dCallI i n gI fr)) := by
  refine iE (pe_callG F hgd hr hm hk hb .nil (fun σ => passAt tk σ) (pa_cons (pe_var hN hv hyd hcd) ha hs) hg hdb hs hpl) ?_
  rintro σ H Q ⟨w, L, sd, W, h⟩
  unfold dCallI at h
  split at h
  · next d0 e0 =>
    obtain ⟨a, q1, q2, q3⟩ := W.atD e0
    refine ⟨.ref a, q1, w, L, sd, W, PostA.bd botE h fun rs s1 h vs H1 st1 W1 rrs => ?_⟩
    dsimp only at h
    split at h
    · next d e1 =>
      obtain ⟨a', p1, p2, p3⟩ := W1.atD e1
      rw [q1] at p1
      cases p1
      split at h
      · next c =>
        have hin : a ∈ L ++ w.O0 := by
          rcases p2 with z | z
          · (exact List.mem_append_left _ z)
          · exact List.mem_append_right _ (W1.sub a z.2)
        refine ⟨?_, L ++ w.O0, a, d, vs, rs, ?_, W1.alive, hin, p3.any c.2, rrs, ?_⟩
        · rw [List.append_nil, List.length_cons, rrs.len]; exact c.1
        · rw [List.append_nil]
        · generalize gI d rs = mm at h
          match mm, h with
          | none, h => exact h.elim
          | some (.ex e []), h => exact h.elim
          | some (.ex e (.un :: _)), h => exact h.elim
          | some (.ex e (.own _ :: _)), h => exact h.elim
          | some (.ex e (.io _ :: _)), h => exact h.elim
          | some (.ex e (.val _ :: _ :: _)), h => exact h.elim
          | some (.ex e [.val d']), h =>
            intro cls d2 H' kp ho x
            obtain ⟨W2, st2⟩ := W1.wrote e1 q1 p2 p3.some kp (ho.old fun _ z => W1.old z)
            exact h L σ H' cls d2 W2 x
          | some (.ok (r, d')), h =>
            intro v H' kp ho rv
            obtain ⟨W2, st2⟩ := W1.wrote e1 q1 p2 p3.some kp (ho.old fun _ z => W1.old z)
            exact h v H' (st1.trans st2) W2 rv
      · exact h.elim
    · exact h.elim
  · exact h.elim
end
end Dt
namespace Dt
open L2 PySem PySem.Spec PyProof.Rows
/-! ### items and slices -/
def ixL : Op2 := fun d e => match d, e with
  | .lst ds, .int k => match atI ds k with
    | some r => ok r
    | none => none
  | _, _ => none
def ixT : Op2 := fun d e => match d, e with
  | .tup ds, .int k => match atI ds k with
    | some r => ok r
    | none => none
  | _, _ => none
def cutD (xs : List D) (lo hi : Option Int) : List D := (xs.drop (HT.sIx xs.length 0 lo)).take (HT.sIx xs.length xs.length hi - HT.sIx xs.length 0 lo)
def partNo : S → M (Option Int × S) := fun s => ok (none, s)
def partAt (f : S → M (D × S)) : S → M (Option Int × S) := fun s => bd (f s) fun p => match p.1 with
  | .int i => ok (some i, p.2)
  | _ => none
def dCutL (f : S → M (D × S)) (fl fh : S → M (Option Int × S)) : S → M (D × S) := fun s => bd (f s) fun p => match p.1 with
  | .lst xs => bd (fl p.2) fun q => bd (fh q.2) fun r => ok (.lst (cutD xs q.1 r.1), r.2)
  | _ => none
def dCutT (f : S → M (D × S)) (fl fh : S → M (Option Int × S)) : S → M (D × S) := fun s => bd (f s) fun p => match p.1 with
  | .tup xs => bd (fl p.2) fun q => bd (fh q.2) fun r => ok (.tup (cutD xs q.1 r.1), r.2)
  | _ => none
def dRev (f : S → M (D × S)) : S → M (D × S) := fun s => bd (f s) fun p => match p.1 with
  | .lst xs => ok (.lst xs.reverse, p.2)
  | _ => none
def catL : Op2 := fun d e => match d, e with
  | .lst xs, .lst ys => if xs.length + ys.length ≤ sizeLine then ok (.lst (xs ++ ys)) else none
  | _, _ => none
def catT : Op2 := fun d e => match d, e with
  | .tup xs, .tup ys => if xs.length + ys.length ≤ sizeLine then ok (.tup (xs ++ ys)) else none
  | _, _ => none
def PostO (K : PySem.W.Frag) (cl : Cl) (wx : WX) (w : Wf) (L : List Addr) (σ : L2.St) (H : Hp) (Q : Option Int → Hp → Prop) : M (Option Int × S) → Prop
  | some (.ok (o, s')) => ∀ H', Step w L H L H' → Wl K cl w L s' σ H' → Q o H'
  | some (.ex e s') => Wish K cl wx w e s'
  | none => False
def TOof (K : PySem.W.Frag) (cl : Cl) (wx : WX) (f : S → M (Option Int × S)) : TO := fun σ H Q => ∃ w L sd, Wl K cl w L sd σ H ∧ PostO K cl wx w L σ H Q (f sd)
section
variable {X : Cx} {K : PySem.W.Frag} {cl : Cl} {wx : WX} {pos p2 : Pos} {a b e : Expr} {lo hi : Option Expr} {fa fb f : S → M (D × S)} {fl fh : S → M (Option Int × S)} {g : Op2}
theorem rp_at {H : Hp} {xs : List V} {ds : List D} {k : Int} {d : D} (r : RpA K cl H xs ds) (h : atI ds k = some d) : ∃ v, atI xs k = some v ∧ Rp K cl H v d := by
  unfold atI at h ⊢
  rw [r.len]
  cases q : ixN ds.length k with
  | none => rw [q] at h; cases h
  | some j =>
    rw [q] at h
    obtain ⟨v, h1, h2⟩ := r.get j h
    exact ⟨v, h1, h2⟩
theorem d_ixL (ha : PE X a (TEof X.K cl wx fa)) (hb : PE X b (TEof X.K cl wx fb)) (hp : PlainIx b := by exact fun _ _ => rfl) : PE X (.Subscript a b pos) (TEof X.K cl wx (dBin ixL fa fb)) := by
  refine iE (pe_ix ix_list ha hb hp) (bin_read fun O H x y d e Q al rx ry h => ?_)
  unfold ixL at h
  split at h
  · next ds k =>
    cases ry
    cases rx with
    | lst s r =>
      split at h
      · next d e =>
        obtain ⟨v, h1, h2⟩ := rp_at r e
        exact ⟨_, _, _, v, rfl, rfl, hide_le.seq s, h1, h.now h2⟩
      · exact h.elim
  · exact h.elim
theorem d_ixT (ha : PE X a (TEof X.K cl wx fa)) (hb : PE X b (TEof X.K cl wx fb)) (hp : PlainIx b := by exact fun _ _ => rfl) : PE X (.Subscript a b pos) (TEof X.K cl wx (dBin ixT fa fb)) := by
  refine iE (pe_ix ix_tup ha hb hp) (bin_read fun O H x y d e Q al rx ry h => ?_)
  unfold ixT at h
  split at h
  · next ds k =>
    cases ry
    cases rx with
    | tup s r =>
      split at h
      · next d e =>
        obtain ⟨v, h1, h2⟩ := rp_at r e
        exact ⟨_, _, _, v, rfl, rfl, same_sqT hide_le s, h1, h.now h2⟩
      · exact h.elim
  · exact h.elim
theorem iO {t t' : TO} {e : Option Expr} (h : PO X e t) (k : ∀ σ H Q, t' σ H Q → t σ H Q) : PO X e t' := ⟨fun pins s σ H Q I q => h.run pins s σ H Q I (k σ H Q q)⟩
theorem o_none : PO X none (TOof K cl wx partNo) := by
  refine iO po_none ?_
  rintro σ H Q ⟨w, L, sd, W, h⟩
  exact h H .refl W
theorem o_some (he : PE X e (TEof K cl wx f)) : PO X (some e) (TOof K cl wx (partAt f)) := by
  refine iO (po_some he) ?_
  rintro σ H Q ⟨w, L, sd, W, h⟩
  refine ⟨w, L, sd, W, PostE.bd (P := PostO K cl wx w L σ H Q) ⟨fun h => h, fun _ _ h => h⟩ h fun r s1 h v H1 st1 W1 rr => ?_⟩
  cases r with
  | int i => cases rr; exact ⟨i, rfl, h H1 st1 W1⟩
  | _ => exact h.elim
theorem cut_rp {H : Hp} {xs : List V} {ds : List D} (r : RpA K cl H xs ds) (l u : Option Int) : RpA K cl H (cutV xs l u) (cutD ds l u) := by
  unfold cutV cutD
  rw [r.len]
  exact (r.drop _).take _
theorem PostO.bd {w : Wf} {L : List Addr} {σ : L2.St} {H : Hp} {m : M (Option Int × S)} {β : Type} {P : M β → Prop} (hb : Bot K cl wx w P) {f : Option Int × S → M β} (h : P (bd m f)) {C : Option Int → Hp → Prop}
    (k : ∀ r s1, P (f (r, s1)) → ∀ H1, Step w L H L H1 → Wl K cl w L s1 σ H1 → C r H1) : PostO K cl wx w L σ H C m := by
  match m, h with
  | none, h => exact (hb.no h).elim
  | some (.ex e s0), h => exact hb.ex e s0 h
  | some (.ok (r, s1)), h => exact fun H1 a b => k r s1 h H1 a b
/-- xs[lo:hi], a new list -/
theorem f_cutL (ha : PE X a (TEof X.K cl wx fa)) (hl : PO X lo (TOof X.K cl wx fl)) (hh : PO X hi (TOof X.K cl wx fh)) : PE X (.Subscript a (.Slice lo hi none p2) pos) (TFof X.K cl wx (dCutL fa fl fh)) := by
  refine iE (pe_slice sl_list ha hl hh) ?_
  rintro σ H Q ⟨w, L, sd, W, h⟩
  refine ⟨w, L, sd, W, PostE.bd botF h fun r s1 h v H1 st1 W1 rr => ?_⟩
  cases rr with
  | @lst ad xs ds s r =>
    dsimp only at h
    refine ⟨w, L, s1, W1, PostO.bd botF h fun q s2 h H2 st2 W2 => ?_⟩
    refine ⟨w, L, s2, W2, PostO.bd botF h fun u s3 h H3 st3 W3 => ?_⟩
    have sm := (st2.trans st3).sn W1
    refine ⟨_, _, rfl, hide_le.seq (sm.seq s), fun p np => ?_⟩
    have sm2 := same_upd (o := .lst (cutV xs q u)) np
    have st4 : Step w L H3 (p :: L) _ := ⟨(Step.of_same (w := w) (L := L) sm2).keep, (Step.of_same (w := w) (L := L) sm2).alv, fun a ha => by
      (rcases List.mem_cons.mp ha with rfl | ha)
      · exact .inr np
      · exact .inl ha⟩
    exact h p _ (((st1.trans st2).trans st3).trans st4) (W3.new_ne np) (W3.ext sm2) (W3.made sm2 np (by rw [upd_same]; simp)) ⟨_, upd_same, ((cut_rp r q u).mono sm).mono (st4.seen W.sub)⟩
  | _ => exact h.elim
theorem d_cutT (ha : PE X a (TEof X.K cl wx fa)) (hl : PO X lo (TOof X.K cl wx fl)) (hh : PO X hi (TOof X.K cl wx fh)) : PE X (.Subscript a (.Slice lo hi none p2) pos) (TEof X.K cl wx (dCutT fa fl fh)) := by
  refine iE (pe_slice sl_tupA ha hl hh) ?_
  rintro σ H Q ⟨w, L, sd, W, h⟩
  refine ⟨w, L, sd, W, PostE.bd botE h fun r s1 h v H1 st1 W1 rr => ?_⟩
  cases rr with
  | @tup ad xs ds s r =>
    dsimp only at h
    refine ⟨w, L, s1, W1, PostO.bd botE h fun q s2 h H2 st2 W2 => ?_⟩
    refine ⟨w, L, s2, W2, PostO.bd botE h fun u s3 h H3 st3 W3 => ?_⟩
    have sm := (st2.trans st3).sn W1
    have st13 := (st1.trans st2).trans st3
    have s3' := same_sqT sm s
    have r3 := r.mono sm
    refine ⟨_, _, rfl, same_sqT hide_le s3', fun hw => ?_, fun _ p np => ?_⟩
    · have e : cutD ds q u = ds := by
        unfold cutD
        rw [← r.len, hw.1, hw.2, List.drop_zero, Nat.sub_zero]
        exact List.take_of_length_le (by rw [r.len]; exact Nat.le_refl _)
      refine h _ H3 st13 W3 ?_
      rw [e]
      exact .tup s3' r3
    · have sm2 := same_upd (o := .tup (cutV xs q u)) np
      have st4 : Step w L H3 L _ := .of_same sm2
      exact h _ _ (st13.trans st4) (W3.ext sm2) (.tup (.inl (.inl (hide_new W3.alive np))) ((cut_rp r3 q u).mono (st4.sn W3)))
  | _ => exact h.elim
/-- xs[::-1], a new list -/
theorem f_rev {k : Nat} {q1 q2 q3 : Pos} (ha : PE X a (TEof X.K cl wx fa)) : PE X (.Subscript a (.Slice none none (some (.UnaryOp .USub (.Constant (.int 1) k q1) q2)) q3) pos) (TFof X.K cl wx (dRev fa)) := by
  refine iE (pe_revL ha) ?_
  rintro σ H Q ⟨w, L, sd, W, h⟩
  refine ⟨w, L, sd, W, PostE.bd botF h fun r s1 h v H1 st1 W1 rr => ?_⟩
  cases rr with
  | @lst ad xs ds s r =>
    refine ⟨_, _, rfl, hide_le.seq s, fun p np => ?_⟩
    have sm2 := same_upd (o := .lst xs.reverse) np
    have st4 : Step w L H1 (p :: L) _ := ⟨(Step.of_same (w := w) (L := L) sm2).keep, (Step.of_same (w := w) (L := L) sm2).alv, fun a ha => by
      (rcases List.mem_cons.mp ha with rfl | ha)
      · exact .inr np
      · exact .inl ha⟩
    exact h p _ (st1.trans st4) (W1.new_ne np) (W1.ext sm2) (W1.made sm2 np (by rw [upd_same]; simp)) ⟨_, upd_same, r.rev.mono (st4.seen W1.sub)⟩
  | _ => exact h.elim
/-- + of any two lists -/
def rCatL (K : PySem.W.Frag) : R2 := fun x y H Q => ∃ l b xs zs, x = .ref l ∧ y = .ref b ∧ SqL K H l xs ∧ SqL K H b zs ∧ xs.length + zs.length ≤ sizeLine ∧ ∀ p, H p = none → Q (.ref p) (upd H p (.lst (xs ++ zs)))
theorem o_catL : OpR X (binaryOp .Add) (rCatL X.K) := by
  (intro pins s σ H x y v u Q I rx ry h)
  obtain ⟨l, b, xs, zs, rfl, rfl, h1, h2, hz, q⟩ := h
  cases rx
  cases ry
  obtain ⟨its, r1, ⟨⟨c1, dd1, data1, sl1⟩, n1, e1, hc1, hd1, ht1⟩, z1⟩ := I.list h1
  obtain ⟨its2, r2, ⟨⟨c2, dd2, data2, sl2⟩, n2, e2, hc2, hd2, ht2⟩, z2⟩ := I.list h2
  simp only at hc1 hd1 ht1 hc2 hd2 ht2
  subst hc1 hd1 ht1 hc2 hd2 ht2
  have l1 := r1.length
  have l2 := r2.length
  refine concat_meets ⟨_, e1, rfl⟩ ⟨_, e2, rfl⟩ noFill_list_add seq_list_add PySem.F.slot_list_add PySem.F.entry_list_add
    (PySem.F.args_list_add_2 _ _) (list_addW l b its.toArray its2.toArray n1 n2 none none sl1 sl2 (by rw [List.size_toArray, List.size_toArray]; omega)) ⟨e1, e2, ?_⟩
  (have ea : its.toArray ++ its2.toArray = (its ++ its2).toArray := by simp)
  rw [ea]
  refine ⟨.ref _, _, I.laid (t' := s.toks) (o := .lst (xs ++ zs)) (fun _ _ z => Heap.get?_push_of_some _ z) (Nat.le_refl _) ⟨by rw [List.length_append]; exact hz, _, 0, r1.append r2, Heap.get?_push_size _ rfl⟩, rfl, q _ (I.hok.fresh (Nat.le_refl _))⟩
theorem k_catL : OpK X X.K cl (binaryOp .Add) catL := by
  refine ⟨_, o_catL, fun O H x y d e Q al rx ry h => ?_⟩
  unfold catL at h
  split at h
  · next xs ys =>
    split at h
    · next c =>
      cases rx with
      | lst s r =>
        cases ry with
        | lst s2 r2 => exact ⟨_, _, _, _, rfl, rfl, hide_le.seq s, hide_le.seq s2, by rw [r.len, r2.len]; exact c, fun p np => h.new np (.lst (.inl (.inl (hide_new al np))) ((r.mono (hide_upd np)).append (r2.mono (hide_upd np))))⟩
    · exact h.elim
  · exact h.elim
theorem k_catT : OpK X X.K cl (binaryOp .Add) catT := by
  refine ⟨_, op_catA, fun O H x y d e Q al rx ry h => ?_⟩
  unfold catT at h
  split at h
  · next xs ys =>
    split at h
    · next c =>
      cases rx with
      | @tup a1 us _ s r =>
        cases ry with
        | @tup a2 ws _ s2 r2 =>
          refine ⟨_, _, _, _, rfl, rfl, same_sqT hide_le s, same_sqT hide_le s2, by rw [r.len, r2.len]; exact c, fun z => ?_, fun _ z => ?_, fun _ _ p np => h.new np (.tup (.inl (.inl (hide_new al np))) ((r.mono (hide_upd np)).append (r2.mono (hide_upd np))))⟩
          · subst z
            cases r
            exact h.now (.tup s2 r2)
          · subst z
            cases r2
            rw [List.append_nil] at h
            exact h.now (.tup s r)
    · exact h.elim
  · exact h.elim
/-! ### a list times an int, the list just made -/
def dRep (fa fb : S → M (D × S)) : S → M (D × S) := fun s => bd (fa s) fun p => bd (fb p.2) fun q => match p.1, q.1 with
  | .lst xs, .int k => if -(2 ^ 63) ≤ k ∧ k < 2 ^ 63 ∧ xs.length * k.toNat ≤ sizeLine then ok (.lst (List.replicate k.toNat xs).flatten, q.2) else none
  | _, _ => none
theorem rp_rep {H : Hp} {xs : List V} {ds : List D} (r : RpA K cl H xs ds) : ∀ n : Nat, RpA K cl H (List.replicate n xs).flatten (List.replicate n ds).flatten
  | 0 => .nil
  | n + 1 => by
    (rw [List.replicate_succ, List.replicate_succ, List.flatten_cons, List.flatten_cons])
    exact r.append (rp_rep r n)
end
end Dt
namespace Dt
open L2 PySem PySem.Spec PyProof.Rows
/-! ### isinstance(e, T), T a built-in type -/
def tyD : D → Option String
  | .non => some "NoneType"
  | .bl _ => some "bool"
  | .int _ => some "int"
  | .str _ => some "str"
  | .lst _ => some "list"
  | .tup _ => some "tuple"
  | _ => none
def isD (T : String) (d : D) : M D := match tyD d with
  | some a => match kitB a T with
    | some b => ok (.bl b)
    | none => none
  | none => none
def dIsi (T : String) (f : S → M (D × S)) : S → M (D × S) := fun s => bd (f s) fun p => bd (isD T p.1) fun r => ok (r, p.2)
section
variable {X : Cx} {cl : Cl} {wx : WX} {pos p0 p2 : Pos} {a b e : Expr} {f fa fb : S → M (D × S)}
theorem ty_of {K : PySem.W.Frag} {O : List Addr} {H : Hp} {v : V} {d : D} {n : String} (r : Rp K cl (hide O H) v d) (h : tyD d = some n) : TyX K H v (.type n) := by
  cases r with
  | non => cases h; exact .base .non
  | bl x => cases h; exact .base (.bl x)
  | int i => cases h; exact .base (.int i)
  | str x => cases h; exact .base (.str x)
  | lst q _ =>
    cases h
    rcases hide_le.seq q with (z | ⟨o, z⟩) | ⟨o, its, n, z, c, _⟩
    · exact .base (.lst z)
    · exact .base (.frz z)
    · exact .kList z c
  | tup q _ =>
    cases h
    rcases same_sqT hide_le q with (z | ⟨o, z⟩) | ⟨o, its, n, z, c, _⟩
    · exact .base (.tup z)
    · exact .fTuple z
    · exact .kTuple z c
  | obj => cases h
  | dic => cases h
  | reg => cases h
  | err => cases h
theorem d_isi {x : Str} {T : String} (he : PE X e (TEof X.K cl wx f)) (hm : X.mg "isinstance" = none) (hT : X.mg x = none) (hv : bootBuiltins x = some (.type T)) (hb : bootBuiltins "isinstance" = some (.builtin "isinstance")) (hg : Gl X "isinstance" := by rfl) (hx : Gl X x := by rfl)
    (hn : x ≠ "__name__" := by decide) (hd : (x == ("__debug__" : Str)) = false := by decide) (h1 : starEach [e, .Name x p2] X.env = (false, eval e X.env) :: starEach [.Name x p2] X.env := by rfl) (h2 : starEach [.Name x p2] X.env = (false, eval (.Name x p2) X.env) :: starEach [] X.env := by rfl)
    (hpl : (backTo pos (starEach [.Name x p2] X.env)).any (·.1) = false := by rfl) : PE X (.Call (.Name "isinstance" p0) [e, .Name x p2] [] pos) (TEof X.K cl wx (dIsi T f)) := by
  refine iE (pe_callB call_isi hg hm hb (pa_cons he (pa_cons (pe_bltn hx hT hv (v := .ty T) rfl hn hd) pa_nil h2) h1) (by decide) (by decide) h1 hpl) ?_
  rintro σ H Q ⟨w, L, sd, W, h⟩
  refine ⟨w, L, sd, W, PostE.bd botE h fun r s1 h v H1 st1 W1 rr => ?_⟩
  have h' := h.fin st1 W1
  unfold isD at h'
  split at h'
  · next n e1 =>
    split at h'
    · next c e2 => exact ⟨v, .ty T, _, _, c, rfl, .ty T, ty_of rr e1, kit_ty e2, h'.now (.bl c)⟩
    · exact h'.elim
  · exact h'.elim
/-! ### [..] * k -/
theorem f_rep (ha : PE X a (TFof X.K cl wx fa)) (hb : PE X b (TEof X.K cl wx fb)) : PE X (.BinOp a .Mult b pos) (TFof X.K cl wx (dRep fa fb)) := by
  refine iE (pe_op op_rep ha hb) ?_
  rintro σ H Q ⟨w, L, sd, W, h⟩
  refine ⟨w, L, sd, W, PostF.bd botF h fun r s1 h p H1 st1 np W1 W1' o1 => ?_⟩
  refine ⟨w, L, s1, W1, PostE.bd botF h fun q s2 h v H2 st2 W2 rq => ?_⟩
  dsimp only at h
  cases r with
  | lst xs =>
    cases q with
    | int k =>
      dsimp only at h
      split at h
      · next c =>
        cases rq
        obtain ⟨vs, e1, r1⟩ := o1
        have np1 : p ∉ L := fun z => np (List.mem_append_left _ z)
        have np2 : p ∉ w.I := fun z => np (List.mem_append_right _ (W1.sub p z))
        have e2 := st2.keep p _ np1 np2 e1
        have r2 : RpA X.K cl (hide (L ++ w.O0) H2) vs xs := (r1.mono (hide_sub fun a ha => List.mem_cons_of_mem _ ha)).mono (st2.sn W2)
        refine ⟨p, k, vs, rfl, rfl, e2, c.1, c.2.1, by rw [r1.len]; exact c.2.2, fun z nz => ?_⟩
        have sm := same_upd (o := .lst (List.replicate k.toNat vs).flatten) nz
        have st3 : Step w L H2 (z :: L) _ := ⟨(Step.of_same (w := w) (L := L) sm).keep, (Step.of_same (w := w) (L := L) sm).alv, fun a ha => by
          (rcases List.mem_cons.mp ha with rfl | ha)
          · exact .inr nz
          · exact .inl ha⟩
        have st0 : Step w L H L H1 := ⟨st1.keep, st1.alv, fun _ h => .inl h⟩
        exact h z _ ((st0.trans st2).trans st3) (W2.new_ne nz) (W2.ext sm) (W2.made sm nz (by rw [upd_same]; simp)) ⟨_, upd_same, (rp_rep r2 _).mono (st3.seen W2.sub)⟩
      · exact h.elim
    | _ => exact h.elim
  | _ => exact h.elim
end
/-! ### keywords of a def without defaults -/
theorem kbN {K : PySem.W.Frag} {x qual : Str} {params : Arguments} {body : List Stmt} {scope : Scope} {f : Addr} {fd : FuncData} {ps : List Str} (F : FunD K x qual params body scope [] [] f fd) (n : Nat) (ks : List Str) (g : {α : Type} → List α → List α → List α)
    (hrel : ∀ {vs zs : List V} {us ws : List Value}, Vals vs us → Vals zs ws → Vals (g vs zs) (g us ws))
    (h : ∀ (kV doc pm : Value) (an : Option Addr) (cdv ct : Value) (us ws : List Value), us.length = n → ws.length = ks.length → bindArgs (PySem.W.fnOf x qual params body scope .none kV doc pm an cdv ct) ⟨us, ks.zip ws⟩ = pure (ps.zip (g us ws))) :
    KBn K fd ps n ks (fun us ws => g us ws) (fun vs zs => g vs zs) := by
  (obtain ⟨oc, od, dV, kV, doc, pm, an, cdv, ct, osl, rfl, lk, hcd, hD, hK⟩ := F.ex)
  (rcases hD with ⟨_, rfl⟩ | ⟨e, _⟩)
  · exact ⟨fun s us ws _ l1 l2 => .of_eq (h kV doc pm an cdv ct us ws l1 l2), fun a b => hrel a b⟩
  · exact absurd rfl e
/-! ### the law's end -/
theorem hide_nil {H : Hp} : hide [] H = H := by
  funext a
  unfold hide
  simp
theorem ints_rp {K : PySem.W.Frag} {cl : Cl} {H : Hp} : ∀ ns : List Int, RpA K cl H (ns.map V.int) (ns.map D.int)
  | [] => .nil
  | n :: ns => .cons (.int n) (ints_rp ns)
theorem sp_law {K : PySem.W.Frag} {cl : Cl} {g : FnD} {H : Hp} {a : Addr} {ns : List Int} {E : XK} (hs : SqL K H a (ns.map V.int)) (h : g [.lst (ns.map D.int)] = ok (.bl true)) : spP K cl 1 g [.ref a] H (fun v _ => v = .bl true) E := by
  refine ⟨rfl, [], [.lst (ns.map D.int)], fun a h => by simp at h, by rw [hide_nil]; exact .cons (.lst hs (ints_rp ns)) .nil, ?_⟩
  rw [h]
  intro v H' _ r
  cases r
  rfl
/-- a def's promise as the caller of the law asks it -/
theorem walk_G {l : PySem.W.OpenLaw} {n k : Nat} {q : Program} {loose : List Str} {XP : (Str → Option Value) → Heap → Prop} {YP : World → Heap → Prop} {d : DefRec} {x : Str}
    (hn : l.most = some n) (hn2
          : n ≤ sizeLine) (hdf : d.params.defaults = []) (hr : Room k callerA)
    (F : ∀ (w : World) (mg : Str
          → Option Value) (fa : Addr) (h : Heap), YP w h → h.Ns mainGlobals mg → mg d.name = some (.ref fa) →
      ∃ (K : PySem.W.Frag) (fd : FuncData) (cl : Cl) (g : FnD), K.In h ∧ (∀ (s : Shared) (u : Value), BindsTo s fd ⟨[u], []⟩ [(x, u)]) ∧ (∀ ns : List Int, ns.length ≤ n → g [.lst (ns.map D.int)] = ok (.bl true)) ∧
        ∀ base : Heap, K.In base → base.Ns mainGlobals mg → FnG l.prog w K mg base (L2.CX l.prog w) k fa fd [x] (spP K cl 1 g)) :
    PySem.W.WalkO q loose XP YP l.row.toRowW d []
          (fun f vs => PySem.call f vs) := by
  (refine Att.attach_call hn hdf fun w s₀ s₁ mg mb fa o pm cd doc a vs ns G Y ho hd hcd hmg hobj hints hlen hg => ?_)
  obtain ⟨K, fd, cl, g, KX, hb, hlaw, hF⟩ := F w mg fa _ Y G.T.g hmg
  have hl : ns.length ≤ sizeLine := Nat.le_trans hlen hn2
  have rv := vals_ints hints
  have lv := hints.length
  have main : ∀ H : Hp, Only H → SqL K H a (ns.map V.int) → HOk l.prog w H s₁.heap → (∀ b, H b ≠ none → b = a) → (H a ≠ none → K.lookup a = none) →
      codeAny (model l.prog w) callerA (.call (.ref fa) ⟨[.ref a], []⟩) (fun r s' => r = .ok (.ret (.bool true)) ∧ OldK s₁.heap s'.heap ∧ s'.os = s₁.os ∧ AllBare s'.gens) s₁ := by
    intro H hO hS hok hA hK
    have isA : ∀ {b : Addr} {u : HO}, H b = some u → b = a := fun {b u} e => hA b (by rw [e]; simp)
    have noD : ∀ {b : Addr} {ob : Obj} {es : Array DictEntry} {ep : Nat}, s₁.heap.get? b = some ob → ob.data = .dict es ep → H b = none := fun {b ob es ep} e1 e2 => by
      cases q : H b with
      | none => rfl
      | some u =>
        rw [isA q, hobj] at e1
        cases e1
        cases (show Data.seq vs.toArray _ = Data.dict es ep from e2)
    have nsB : ∀ {b : Addr} {m : Str → Option Value}, s₁.heap.Ns b m → (hidT s₁.heap H).Ns b m := fun {b m} ⟨ob, es, ep, e1, e2, r⟩ => ⟨ob, es, ep, hidT_get e1 (noD e1 e2), e2, r⟩
    have inB : K.In (hidT s₁.heap H) := fun b ob e => by
      refine hidT_get (KX b ob e) ?_
      cases q : H b with
      | none => rfl
      | some u =>
        have z := isA q
        subst z
        (rw [hK (by rw [q]; simp)] at e)
        cases e
    obtain ⟨mc, n1, n2⟩ := G.T.nolimit
    have env : Env0 l.prog w K mg (hidT s₁.heap H) callerA [] s₁ H := ⟨rfl, ⟨inB, nsB G.T.g, ⟨mb, nsB G.T.b, G.T.builtins⟩, ⟨mc, nsB n1, n2⟩⟩, fun b ob e => of_hidT e, Nat.le_of_eq (hidT_size _ _), trivial, fun b hb => absurd (show b ∈ ([] : List Addr) from hb) (by simp), hok, .of_eq hg⟩
    refine codeAny_mono ((hF _ inB (nsB G.T.g)).go callerA [] s₁ H ⟨[.ref a], []⟩ [.ref a] [.ref a] _ (fun _ _ _ => False) rfl hr env (hb s₁ (.ref a)) (.cons rfl .nil) (sp_law hS (hlaw ns hlen))) fun r s' h => ?_
    match r, h with
    | .error e, h =>
      (obtain ⟨_, _, _, _, _, _, _, _, _, _, _, _, z⟩ := h)
      exact False.elim z
    | .ok .next, h => exact False.elim h
    | .ok .brk, h => exact False.elim h
    | .ok .cont, h => exact False.elim h
    | .ok (.ret u), h =>
      obtain ⟨v, H', os, bare, un, hok', r', z⟩ := h
      cases (show v = .bl true from z)
      cases (show u = Value.bool true from r')
      refine ⟨rfl, OldK.of_keep fun b ob e => ?_, os, bare⟩
      cases q : H b with
      | none => exact un.keep b ob e q (fun z => absurd (show b ∈ ([] : List Addr) from z) (by simp)) (by simp)
      | some u =>
        rcases hO b with z | ⟨o2, xs, z⟩
        · rw [q] at z
          cases z
        · have g1 := (hok b _ z).1
          have g2 := (hok' b _ (un.frzs b o2 _ z)).1
          rw [e] at g1
          cases g1
          exact g2
  cases q : K.lookup a with
  | some ob =>
    have e := KX a ob q
    rw [hobj] at e
    cases e
    exact main (fun _ => none) (fun _ => .inl rfl) (.inr ⟨_, vs.toArray, _, q, rfl, rfl, rfl, by rw [List.size_toArray, lv]; exact hl, by simpa using rv⟩) (fun b u z => nomatch z) (fun b z => absurd rfl z) fun z => absurd rfl z
  | none =>
    have at_ : ∀ {b : Addr} {u : HO}, (if b = a then some (HO.frz { cls := .type "list", data := .seq vs.toArray } (.lst (ns.map V.int))) else none) = some u → b = a ∧ u = HO.frz { cls := .type "list", data := .seq vs.toArray } (.lst (ns.map V.int)) := fun {b u} z => by
      by_cases c : b = a
      · rw [if_pos c] at z
        exact ⟨c, (Option.some.inj z).symm⟩
      · rw [if_neg c] at z
        cases z
    refine main (fun b => if b = a then some (.frz { cls := .type "list", data := .seq vs.toArray } (.lst (ns.map V.int))) else none) (fun b => ?_) (.inl (.inr ⟨{ cls := .type "list", data := .seq vs.toArray }, if_pos rfl⟩)) (fun b u z => ?_) (fun b z => ?_) fun _ => q
    · by_cases c : b = a
      · exact .inr ⟨_, _, if_pos c⟩
      · exact .inl (if_neg c)
    · obtain ⟨rfl, rfl⟩ := at_ z
      exact ⟨hobj, by rw [List.length_map]; exact hl, vs, _, rv, hobj⟩
    · by_cases c : b = a
      · exact c
      · exact absurd (if_neg c) z
end Dt
namespace Dt
open L2 PySem PySem.Spec PyProof.Rows
section
variable {X : Cx} {K : PySem.W.Frag} {cl : Cl} {wx : WX}
/-- x = [..] on one line -/
theorem s_ownLc (i : Nat) {y : Str} {py pos spos : Pos} {elt tg iter : Expr} {ifs : List Expr} {scope : Scope} {own : List (Str × Nat)} {fi : S → M (List D × S)} {ts : List Nat} {T : D → S → M S} {ft : S → M (Bool × S)} {fe : S → M (D × S)}
    (hc : X.calm = true) (hN : X.N.Nodup) (hi : PI X tg iter (TIof K cl wx fi)) (ok : BlkOk X.N X.env.scope scope own)
    (hg : ∀ (s : Shared) (H : Hp) (C : Addr) (cls : List (Str × Addr)) (fp : List Addr), PG (X.blk s H scope (compEnvC scope cls C X.env) fp) tg (TGof K cl noW ts T))
    (ht : ∀ (s : Shared) (H : Hp) (C : Addr) (cls : List (Str × Addr)) (fp : List Addr), PTs (X.blk s H scope (compEnvC scope cls C X.env) fp) ifs (TTof K cl noW ft))
    (he : ∀ (s : Shared) (H : Hp) (C : Addr) (cls : List (Str × Addr)) (fp : List Addr), PE (X.blk s H scope (compEnvC scope cls C X.env) fp) elt (TEof K cl noW fe))
    (hts : ∀ i ∈ ts, i ∈ own.map (·.2)) (hy : X.N[i]? = some y := by rfl) (hyl : X.env.scope.names.lookup y = some .local := by rfl)
    (hsw : swapsWith (.ListComp elt [⟨tg, iter, ifs, 0⟩] scope pos) (some (.Name y py)) spos.line X.env = pure true := by exact sw_true rfl rfl rfl (by decide +kernel)) (hs : ∀ x, foldedSetIterable iter X.env x = pure x := by intro _; rfl) :
    PS X (.Assign [.Name y py] (.ListComp elt [⟨tg, iter, ifs, 0⟩] scope pos) spos) (TSof K cl wx [i] (sOwn i (dComp fi (own.map (·.2)) T ft fe))) := by
  refine iS (ps_setLc hc hN hy hyl hsw hi ok hg ht he hs) ?_
  rintro E σ H ⟨w, L, sd, W, h⟩
  refine comp_read hts σ H _ ⟨w, L, sd, W, PostF.bd botS h fun r s1 h p H1 st1 np W1 W2 ho => ?_⟩
  exact h (p :: L) _ H1 st1 (W1.setOwn i np W2 (ho.old fun _ z => W.old z)) agree_set
theorem s_setLc (i : Nat) {y : Str} {py pos spos : Pos} {elt tg iter : Expr} {ifs : List Expr} {scope : Scope} {own : List (Str × Nat)} {fi : S → M (List D × S)} {ts : List Nat} {T : D → S → M S} {ft : S → M (Bool × S)} {fe : S → M (D × S)}
    (hc : X.calm = true) (hN : X.N.Nodup) (hi : PI X tg iter (TIof K cl wx fi)) (ok : BlkOk X.N X.env.scope scope own)
    (hg : ∀ (s : Shared) (H : Hp) (C : Addr) (cls : List (Str × Addr)) (fp : List Addr), PG (X.blk s H scope (compEnvC scope cls C X.env) fp) tg (TGof K cl noW ts T))
    (ht : ∀ (s : Shared) (H : Hp) (C : Addr) (cls : List (Str × Addr)) (fp : List Addr), PTs (X.blk s H scope (compEnvC scope cls C X.env) fp) ifs (TTof K cl noW ft))
    (he : ∀ (s : Shared) (H : Hp) (C : Addr) (cls : List (Str × Addr)) (fp : List Addr), PE (X.blk s H scope (compEnvC scope cls C X.env) fp) elt (TEof K cl noW fe))
    (hts : ∀ i ∈ ts, i ∈ own.map (·.2)) (hy : X.N[i]? = some y := by rfl) (hyl : X.env.scope.names.lookup y = some .local := by rfl)
    (hsw : swapsWith (.ListComp elt [⟨tg, iter, ifs, 0⟩] scope pos) (some (.Name y py)) spos.line X.env = pure true := by exact sw_true rfl rfl rfl (by decide +kernel)) (hs : ∀ x, foldedSetIterable iter X.env x = pure x := by intro _; rfl) :
    PS X (.Assign [.Name y py] (.ListComp elt [⟨tg, iter, ifs, 0⟩] scope pos) spos) (TSof K cl wx [i] (sSet i (dComp fi (own.map (·.2)) T ft fe))) := by
  refine iS (ps_setLc hc hN hy hyl hsw hi ok hg ht he hs) ?_
  rintro E σ H ⟨w, L, sd, W, h⟩
  refine comp_read hts σ H _ ⟨w, L, sd, W, PostF.bd botS h fun r s1 h p H1 st1 np W1 W2 ho => ?_⟩
  have st2 : Step w L H L H1 := ⟨st1.keep, st1.alv, fun _ h => .inl h⟩
  exact h L _ H1 st2 (W1.set (ho.rp np (hide_sub fun a ha => List.mem_cons_of_mem _ ha))) agree_set
theorem u64 {k : Nat} {A : Around} (r : Room k A) : A.units + 64 < cLine := by
  have := r.un
  omega
theorem u65 {k : Nat} {A : Around} (r : Room k A) : A.units + 65 < cLine := by
  have := r.un
  omega
/-- a def that keeps its promise, from its walk -/
theorem okP {P : Program} {w : World} {mg : Str → Option Value} {base : Heap} {k : Nat} {f : Addr} {fd : FuncData} {ps : List Str} {x qual : Str} {params : Arguments} {body : List Stmt} {scope : Scope} {dvs : List V} {kws : List (Str × V)} {N : List Str} {F : S → M Out} {n : Nat} {g : FnD}
    (D0 : FunD K x qual params body scope dvs kws f fd) (sc : FnScope N ps scope) (eg : g = runP N.length F) (en : n = ps.length)
    (h : ∀ (cdv : Value) (A : Around) (outer : List Env) (s : Shared) (H : Hp) (E : XK), A.guards = some [] → Room k (A.deeper (envOfC qual scope s.heap.objs.size f cdv)) →
      Takes (cxOf (L2.CX P w) P w K mg base N qual scope f cdv A outer s H E) (wxE E) → PassesOwn (model P w) (cxOf (L2.CX P w) P w K mg base N qual scope f cdv A outer s H E).A (cxOf (L2.CX P w) P w K mg base N qual scope f cdv A outer s H E).env (cxOf (L2.CX P w) P w K mg base N qual scope f cdv A outer s H E).xe →
      ∃ ts, PSs (cxOf (L2.CX P w) P w K mg base N qual scope f cdv A outer s H E) body (TSof K cl (wxE E) ts F)) : FnG P w K mg base (L2.CX P w) (k + 1) f fd ps (spP K cl n g) := by
  subst eg en
  refine okGD D0 sc (fun vs H Q E z => z.1) fun cdv A outer s H vs Q E hg hr z => ?_
  obtain ⟨ts, hb⟩ := h cdv A outer s H E hg hr (takes_of rfl rfl rfl rfl) (passes_of rfl)
  exact walkP hb z
theorem okF {P : Program} {w : World} {mg : Str → Option Value} {base : Heap} {k : Nat} {f : Addr} {fd : FuncData} {ps : List Str} {x qual : Str} {params : Arguments} {body : List Stmt} {scope : Scope} {dvs : List V} {kws : List (Str × V)} {N : List Str} {F : S → M Out} {n : Nat} {g : FnD}
    (D0 : FunD K x qual params body scope dvs kws f fd) (sc : FnScope N ps scope) (eg : g = runF N.length F) (en : n = ps.length)
    (h : ∀ (cdv : Value) (A : Around) (outer : List Env) (s : Shared) (H : Hp) (E : XK), A.guards = some [] → Room k (A.deeper (envOfC qual scope s.heap.objs.size f cdv)) →
      Takes (cxOf (L2.CX P w) P w K mg base N qual scope f cdv A outer s H E) (wxE E) → PassesOwn (model P w) (cxOf (L2.CX P w) P w K mg base N qual scope f cdv A outer s H E).A (cxOf (L2.CX P w) P w K mg base N qual scope f cdv A outer s H E).env (cxOf (L2.CX P w) P w K mg base N qual scope f cdv A outer s H E).xe →
      ∃ ts, PSs (cxOf (L2.CX P w) P w K mg base N qual scope f cdv A outer s H E) body (TSof K cl (wxE E) ts F)) : FnG P w K mg base (L2.CX P w) (k + 1) f fd ps (spF K cl n g) := by
  subst eg en
  refine okGD D0 sc (fun vs H Q E z => z.1) fun cdv A outer s H vs Q E hg hr z => ?_
  obtain ⟨ts, hb⟩ := h cdv A outer s H E hg hr (takes_of rfl rfl rfl rfl) (passes_of rfl)
  exact walkF hb z
theorem okI {P : Program} {w : World} {mg : Str → Option Value} {base : Heap} {k : Nat} {f : Addr} {fd : FuncData} {ps : List Str} {x qual : Str} {params : Arguments} {body : List Stmt} {scope : Scope} {dvs : List V} {kws : List (Str × V)} {N : List Str} {F : S → M Out} {n : Nat} {g : D → List D → M (D × D)}
    (D0 : FunD K x qual params body scope dvs kws f fd) (sc : FnScope N ps scope) (eg : g = runI N.length F) (en : n = ps.length) (hn : ps.length ≤ N.length)
    (h : ∀ (cdv : Value) (A : Around) (outer : List Env) (s : Shared) (H : Hp) (E : XK), A.guards = some [] → Room k (A.deeper (envOfC qual scope s.heap.objs.size f cdv)) →
      Takes (cxOf (L2.CX P w) P w K mg base N qual scope f cdv A outer s H E) (wxE E) → PassesOwn (model P w) (cxOf (L2.CX P w) P w K mg base N qual scope f cdv A outer s H E).A (cxOf (L2.CX P w) P w K mg base N qual scope f cdv A outer s H E).env (cxOf (L2.CX P w) P w K mg base N qual scope f cdv A outer s H E).xe →
      ∃ ts, PSs (cxOf (L2.CX P w) P w K mg base N qual scope f cdv A outer s H E) body (TSof K cl (wxE E) ts F)) : FnG P w K mg base (L2.CX P w) (k + 1) f fd ps (spI K cl n g) := by
  subst eg en
  refine okGD D0 sc (fun vs H Q E z => z.1) fun cdv A outer s H vs Q E hg hr z => ?_
  obtain ⟨ts, hb⟩ := h cdv A outer s H E hg hr (takes_of rfl rfl rfl rfl) (passes_of rfl)
  exact walkI hn hb z
end
end Dt
namespace Dt
open L2 PySem PySem.Spec PyProof.Rows
/-! ### list(zip(a, b)) of two lists -/
theorem zip_len0 : typeLookup (.type "zip") "__len__" = pure none := by
  (rw [typeLookup_type, builtinLookup_eq_fast])
  kernel_rfl
theorem zip_hint0 : typeLookup (.type "zip") "__length_hint__" = pure none := by
  (rw [typeLookup_type, builtinLookup_eq_fast])
  kernel_rfl
/-- what has been drawn -/
def PairsAt (H1 H : Hp) (xs ys : List V) (k : Nat) (out : List V) : Prop := out.length = k ∧ ∀ j, j < k → ∃ T x y, out[j]? = some (.ref T) ∧ xs[j]? = some x ∧ ys[j]? = some y ∧ H T = some (.tup [x, y]) ∧ H1 T = none
/-- the state of the drawing -/
structure Dz (P : Program) (w : World) (h0 : Heap) (H1 : Hp) (z TI TO i1 i2 l1 l2 S : Addr) (xs ys : List V) (k : Nat) (h : Heap) (H : Hp) (acc : Array Value) (out : List V) : Prop where
  keep : ∀ b o, h0.get? b = some o → h.get? b = some o
  sz : h0.objs.size ≤ h.objs.size
  hok : HOk P w H h
  same : ∀ b o, H1 b = some o → H b = some o
  new : ∀ b, H b ≠ none → H1 b = none → h0.objs.size ≤ b
  ti : IsPair h TI (.ref i1) (.ref i2)
  tot : ∃ o, h.get? TO = some o
  it1 : h.IsListIter i1 l1 k
  it2 : h.IsListIter i2 l2 k
  zs : (IsZip h z TI TO .none ∧ ∃ a b, IsPair h TO a b) ∨ ∃ T f oT, IsZipHeld h z TI TO T f ∧ h.get? T = some oT ∧ T ≠ z ∧ T ≠ i1 ∧ T ≠ i2 ∧ T ≠ S
  lst : ∃ c, h.get? S = some (lstObj acc c)
  rel : Vals out acc.toList
  prs : PairsAt H1 H xs ys k out
  hz : H z = none
  hTO : H TO = none
  h1 : H i1 = none
  h2 : H i2 = none
  hS : H S = none
section
variable {P : Program} {w : World} {h0 : Heap} {H1 : Hp} {z TI TO i1 i2 l1 l2 S : Addr} {xs ys : List V} {k : Nat} {h h' : Heap} {H : Hp} {acc : Array Value} {out : List V}
theorem two_le {x y : V} : [x, y].length ≤ sizeLine := by
  show 2 ≤ 2 ^ 24
  decide
/-- one pair more -/
theorem Dz.more (D : Dz P w h0 H1 z TI TO i1 i2 l1 l2 S xs ys k h H acc out) (Z : ZipApart z TI TO i1 i2 l1 l2) {x y : V} {u v : Value} (ru : RelV x u) (rv : RelV y v) (ex : xs[k]? = some x) (ey : ys[k]? = some y)
    (b0 : ∀ b, b = z ∨ b = TO ∨ b = i1 ∨ b = i2 ∨ b = S → h0.objs.size ≤ b) (nTI : TI ≠ S) (nTO : TO ≠ S) (nz : z ≠ S) (n1 : i1 ≠ S) (n2 : i2 ≠ S)
    (hk : ∀ c o, c ≠ z → c ≠ TO → c ≠ i1 → c ≠ i2 → h.get? c = some o → h'.get? c = some o) (hsz : h'.objs.size = h.objs.size + 1) (a1 : IsZipHeld h' z TI TO h.objs.size false ∨ IsZipHeld h' z TI TO h.objs.size true ∨ ∃ T oT, IsZipHeld h' z TI TO T true ∧ h'.get? T = some oT ∧ T ≠ z ∧ T ≠ i1 ∧ T ≠ i2 ∧ T ≠ S)
    (a3 : h'.IsListIter i1 l1 (k + 1)) (a4 : h'.IsListIter i2 l2 (k + 1)) (a5 : IsPair h' h.objs.size u v) (a6 : ∃ o, h'.get? TO = some o) :
    Dz P w h0 H1 z TI TO i1 i2 l1 l2 S xs ys (k + 1) (h'.update S (Obj.mapSeq (·.push (.ref h.objs.size)))) (upd H h.objs.size (.tup [x, y])) (acc.push (.ref h.objs.size)) (out ++ [.ref h.objs.size]) := by
  obtain ⟨c, hl⟩ := D.lst
  have lt : ∀ {c o}, h.get? c = some o → h.objs.size ≠ c := fun e => Nat.ne_of_gt (Heap.lt_size e)
  have hT : H h.objs.size = none := D.hok.fresh (Nat.le_refl _)
  have TS : h.objs.size ≠ S := lt hl
  have Tz : h.objs.size ≠ z := by
    rcases D.zs with ⟨e, _⟩ | ⟨_, _, _, e, _⟩ <;> exact lt e
  have T1 : h.objs.size ≠ i1 := by
    obtain ⟨o, e, _⟩ := D.it1
    exact lt e
  have T2 : h.objs.size ≠ i2 := by
    obtain ⟨o, e, _⟩ := D.it2
    exact lt e
  have up : ∀ b o, b ≠ S → h'.get? b = some o → (h'.update S (Obj.mapSeq (·.push (.ref h.objs.size)))).get? b = some o := fun b o n e => (Heap.get?_update_other _ _ (Ne.symm n)).trans e
  have big : ∀ {b o}, h0.get? b = some o → b ≠ z ∧ b ≠ TO ∧ b ≠ i1 ∧ b ≠ i2 ∧ b ≠ S := fun {b o} e => by
    have l := Heap.lt_size e
    refine ⟨fun q => ?_, fun q => ?_, fun q => ?_, fun q => ?_, fun q => ?_⟩
    · exact absurd (b0 b (.inl q)) (Nat.not_le.mpr l)
    · exact absurd (b0 b (.inr (.inl q))) (Nat.not_le.mpr l)
    · exact absurd (b0 b (.inr (.inr (.inl q)))) (Nat.not_le.mpr l)
    · exact absurd (b0 b (.inr (.inr (.inr (.inl q))))) (Nat.not_le.mpr l)
    · exact absurd (b0 b (.inr (.inr (.inr (.inr q))))) (Nat.not_le.mpr l)
  have trk : ∀ {b : Addr}, H b ≠ none → b ≠ z ∧ b ≠ TO ∧ b ≠ i1 ∧ b ≠ i2 ∧ b ≠ S := fun {b} n =>
    ⟨fun q => n (q ▸ D.hz), fun q => n (q ▸ D.hTO), fun q => n (q ▸ D.h1), fun q => n (q ▸ D.h2), fun q => n (q ▸ D.hS)⟩
  have stay : ∀ b o, H b ≠ none → h.get? b = some o → (h'.update S (Obj.mapSeq (·.push (.ref h.objs.size)))).get? b = some o := fun b o n e =>
    let ⟨q1, q2, q3, q4, q5⟩ := trk n
    up b o q5 (hk b o q1 q2 q3 q4 e)
  have h0le : h0.objs.size ≤ h.objs.size := D.sz
  refine ⟨fun b o e => ?_, ?_, fun b o e => ?_, fun b o e => ?_, fun b n e => ?_, ?_, ?_, ?_, ?_, ?_, ?_, ?_, ?_, ?_, ?_, ?_, ?_, ?_⟩
  · obtain ⟨q1, q2, q3, q4, q5⟩ := big e
    exact up b o q5 (hk b o q1 q2 q3 q4 (D.keep b o e))
  · rw [Heap.size_update, hsz]
    omega
  · by_cases q : b = h.objs.size
    · subst q
      rw [upd_same] at e
      cases e
      exact ⟨two_le, [u, v], .cons ru (.cons rv .nil), _, up _ _ TS a5, rfl, 0, rfl⟩
    · rw [upd_ne q] at e
      have nb : H b ≠ none := by rw [e]; simp
      refine (D.hok b o e).stay (fun b' u' hb e' => stay b' u' ?_ e') (fun b' e' => by rw [upd_ne (ne_of_none e' hT)]; exact e') fun b' xs' e' => by rw [upd_ne (ne_of_none e' hT)]; exact e'
      rcases hb with hb | hb
      · rw [hb]; exact nb
      · rw [hb]; simp
  · have := D.same b o e
    rw [upd_ne (ne_of_none this hT)]
    exact this
  · by_cases q : b = h.objs.size
    · rw [q]; exact h0le
    · rw [upd_ne q] at n
      exact D.new b n e
  · exact up _ _ nTI (hk _ _ Z.TIz Z.TITO Z.TIi1 Z.TIi2 D.ti)
  · obtain ⟨o, e⟩ := a6
    exact ⟨o, up _ _ nTO e⟩
  · exact a3.at fun o e => up _ _ n1 e
  · exact a4.at fun o e => up _ _ n2 e
  · rcases a1 with a1 | a1 | ⟨T, oT, a1, e, q1, q2, q3, q4⟩
    · exact .inr ⟨_, _, _, up _ _ nz a1, up _ _ TS a5, Tz, T1, T2, TS⟩
    · exact .inr ⟨_, _, _, up _ _ nz a1, up _ _ TS a5, Tz, T1, T2, TS⟩
    · exact .inr ⟨_, _, _, up _ _ nz a1, up _ _ q4 e, q1, q2, q3, q4⟩
  · have e := hk S _ (Ne.symm nz) (Ne.symm nTO) (Ne.symm n1) (Ne.symm n2) hl
    exact ⟨_, Heap.get?_update_self (Obj.mapSeq (·.push (.ref h.objs.size))) e rfl⟩
  · rw [Array.toList_push]
    exact D.rel.append (.cons rfl .nil)
  · obtain ⟨q1, q2⟩ := D.prs
    refine ⟨by rw [List.length_append, q1]; rfl, fun j hj => ?_⟩
    by_cases e : j < k
    · obtain ⟨T, x', y', p1, p2, p3, p4, p5⟩ := q2 j e
      refine ⟨T, x', y', by rw [List.getElem?_append_left (by omega)]; exact p1, p2, p3, by rw [upd_ne (ne_of_none p4 hT)]; exact p4, p5⟩
    · have ej : j = k := by omega
      subst ej
      refine ⟨h.objs.size, x, y, by rw [List.getElem?_append_right (by omega), q1, Nat.sub_self]; rfl, ex, ey, upd_same, ?_⟩
      cases q : H1 h.objs.size with
      | none => rfl
      | some o =>
        have := D.same _ _ q
        rw [hT] at this
        cases this
  · rw [upd_ne (Ne.symm Tz)]; exact D.hz
  · obtain ⟨o, e⟩ := D.tot
    rw [upd_ne (Ne.symm (lt e))]
    exact D.hTO
  · rw [upd_ne (Ne.symm T1)]; exact D.h1
  · rw [upd_ne (Ne.symm T2)]; exact D.h2
  · rw [upd_ne (Ne.symm TS)]; exact D.hS
/-- the heap behind the last pair -/
structure Fz (P : Program) (w : World) (h0 : Heap) (H1 : Hp) (S : Addr) (xs ys : List V) (h : Heap) (H : Hp) (acc : Array Value) (out : List V) : Prop where
  keep : ∀ b o, h0.get? b = some o → h.get? b = some o
  hok : HOk P w H h
  same : ∀ b o, H1 b = some o → H b = some o
  new : ∀ b, H b ≠ none → H1 b = none → h0.objs.size ≤ b
  lst : ∃ c, h.get? S = some (lstObj acc c)
  rel : Vals out acc.toList
  prs : PairsAt H1 H xs ys (min xs.length ys.length) out
  hS : H S = none
theorem Dz.last (D : Dz P w h0 H1 z TI TO i1 i2 l1 l2 S xs ys (min xs.length ys.length) h H acc out) (b0 : ∀ b, b = z ∨ b = TO ∨ b = i1 ∨ b = i2 → h0.objs.size ≤ b) (nTO : TO ≠ S) (nz : z ≠ S) (n1 : i1 ≠ S) (n2 : i2 ≠ S)
    (hk : ∀ c o, c ≠ z → c ≠ TO → c ≠ i1 → c ≠ i2 → h.get? c = some o → h'.get? c = some o) : Fz P w h0 H1 S xs ys h' H acc out := by
  obtain ⟨c, hl⟩ := D.lst
  have stay : ∀ b o, H b ≠ none → h.get? b = some o → h'.get? b = some o := fun b o n e => hk b o (fun q => n (q ▸ D.hz)) (fun q => n (q ▸ D.hTO)) (fun q => n (q ▸ D.h1)) (fun q => n (q ▸ D.h2)) e
  refine ⟨fun b o e => ?_, fun b o e => ?_, D.same, D.new, ⟨c, hk S _ (Ne.symm nz) (Ne.symm nTO) (Ne.symm n1) (Ne.symm n2) hl⟩, D.rel, D.prs, D.hS⟩
  · have l := Heap.lt_size e
    have far : ∀ {d}, h0.objs.size ≤ d → b ≠ d := fun q z => absurd (z ▸ q) (Nat.not_le.mpr l)
    exact hk b o (far (b0 z (.inl rfl))) (far (b0 TO (.inr (.inl rfl)))) (far (b0 i1 (.inr (.inr (.inl rfl))))) (far (b0 i2 (.inr (.inr (.inr rfl))))) (D.keep b o e)
  · have nb : H b ≠ none := by rw [e]; simp
    refine (D.hok b o e).stay (fun b' u' hb e' => stay b' u' ?_ e') (fun _ q => q) fun _ _ q => q
    rcases hb with hb | hb
    · rw [hb]; exact nb
    · rw [hb]; simp
theorem vals_at : ∀ {xs : List V} {us : List Value}, Vals xs us → ∀ {j : Nat} {x : V}, xs[j]? = some x → ∃ u, us[j]? = some u ∧ RelV x u
  | _, _, .nil, j, x, e => by simp at e
  | _, _, .cons r t, 0, x, e => ⟨_, rfl, by cases e; exact r⟩
  | _, _, .cons r t, j + 1, x, e => vals_at t (by simpa using e)
theorem drainZ {A : Around} {s : Shared} {R : Result → Shared → Prop} {us vs : List Value} {res : Value} (hA : A.handled = none) (Z : ZipApart z TI TO i1 i2 l1 l2)
    (b0 : ∀ b, b = z ∨ b = TO ∨ b = i1 ∨ b = i2 ∨ b = S → h0.objs.size ≤ b) (nTI : TI ≠ S) (nTO : TO ≠ S) (nz : z ≠ S) (n1 : i1 ≠ S) (n2 : i2 ≠ S) (q1 : h0.IsList l1 us.toArray) (q2 : h0.IsList l2 vs.toArray) (r1 : Vals xs us) (r2 : Vals ys vs) (hz : xs.length ≤ sizeLine)
    (hend : ∀ h H acc out, Fz P w h0 H1 S xs ys h H acc out → R (.ok (.ret res)) { s with heap := h }) : ∀ (m k : Nat) (h : Heap) (H : Hp) (acc : Array Value) (out : List V), k + m = min xs.length ys.length → Dz P w h0 H1 z TI TO i1 i2 l1 l2 S xs ys k h H acc out →
      codeAny (model P w) A (.builtin "list.extend.loop" ⟨[.ref S, .ref z, res], []⟩) R { s with heap := h } := by
  have len1 := r1.length
  have len2 := r2.length
  have b4 : ∀ b, b = z ∨ b = TO ∨ b = i1 ∨ b = i2 → h0.objs.size ≤ b := fun b q => by
    rcases q with q | q | q | q
    · exact b0 b (.inl q)
    · exact b0 b (.inr (.inl q))
    · exact b0 b (.inr (.inr (.inl q)))
    · exact b0 b (.inr (.inr (.inr (.inl q))))
  intro m
  induction m with
  | zero =>
    intro k h H acc out hk0 D
    have ek : k = min xs.length ys.length := by omega
    subst ek
    have L1 := q1.at fun o e => D.keep _ o e
    have L2 := q2.at fun o e => D.keep _ o e
    have ends : us.toArray[min xs.length ys.length]? = none ∨ vs.toArray[min xs.length ys.length]? = none := by
      rcases Nat.le_total xs.length ys.length with q | q
      · exact .inl (Array.getElem?_eq_none (by rw [List.size_toArray, ← len1]; omega))
      · exact .inr (Array.getElem?_eq_none (by rw [List.size_toArray, ← len2]; omega))
    (refine codeAny_builtin F.entry_extend_loop ?_)
    (rw [Around.under_plainId F.plain_extend_loop _])
    show wpAny _ A.in1 (pyNext (.ref z) >>= _) _ _ { s with heap := h }
    refine wpAny_bind ?_
    rcases D.zs with ⟨hz0, a, b, hTO⟩ | ⟨T, f, oT, hz0, hT, t1, t2, t3, t4⟩
    · exact wpAny_pyNext_zip_end (s := { s with heap := h }) (A := A.in1) hA Z hz0 D.ti hTO D.it1 D.it2 L1 L2 ends fun h' hk => wpAny_pure (hend h' H acc out (D.last b4 nTO nz n1 n2 hk))
    · exact wpAny_pyNext_zip_end_held (s := { s with heap := h }) (A := A.in1) hA Z hz0 hT D.ti D.it1 D.it2 L1 L2 ends fun h' hk => wpAny_pure (hend h' H acc out (D.last b4 nTO nz n1 n2 fun c o c1 _ c2 c3 e => hk c o c1 c2 c3 e))
  | succ m ih =>
    intro k h H acc out hk0 D
    have hx1 : k < xs.length := by omega
    have hy1 : k < ys.length := by omega
    have gx : xs[k]? = some xs[k] := List.getElem?_eq_getElem hx1
    have gy : ys[k]? = some ys[k] := List.getElem?_eq_getElem hy1
    obtain ⟨u, eu, ru⟩ := vals_at r1 gx
    obtain ⟨v, ev, rv⟩ := vals_at r2 gy
    have eu2 : us.toArray[k]? = some u := by simpa using eu
    have ev2 : vs.toArray[k]? = some v := by simpa using ev
    have L1 := q1.at fun o e => D.keep _ o e
    have L2 := q2.at fun o e => D.keep _ o e
    have asz : acc.size < sizeLine := by
      have q := D.prs.1
      have q' : out.length = acc.size := by simpa using D.rel.length
      omega
    have push : ∀ h', (∀ c o, c ≠ z → c ≠ TO → c ≠ i1 → c ≠ i2 → h.get? c = some o → h'.get? c = some o) →
        Dz P w h0 H1 z TI TO i1 i2 l1 l2 S xs ys (k + 1) (h'.update S (Obj.mapSeq (·.push (.ref h.objs.size)))) (upd H h.objs.size (.tup [xs[k], ys[k]])) (acc.push (.ref h.objs.size)) (out ++ [.ref h.objs.size]) →
        wpAny (model P w) A.in1 (do Builtin.List.listUpdate (.ref S) (·.push (.ref h.objs.size)); again (.builtin "list.extend.loop" ⟨[.ref S, .ref z, res], []⟩))
          (fun fin s' => match fin with
            | .done f => R (.ok f) s'
            | .again c' => c'.quiet = true ∧ codeAny (model P w) A c' R s') (fun e s' => R (.error e) s') { s with heap := h' } := fun h' hk D' => by
      obtain ⟨c, hl⟩ := D.lst
      have e := hk S _ (Ne.symm nz) (Ne.symm nTO) (Ne.symm n1) (Ne.symm n2) hl
      show wpAny _ _ (updateSeq S (·.push (.ref h.objs.size)) >>= _) _ _ _
      refine wpAny_bind ?_
      exact wpAny_updateSeq e rfl (wpAny_pure ⟨plainId_quiet F.plain_extend_loop _, ih (k + 1) _ _ _ _ (by omega) D'⟩) (Nat.le_of_lt asz) (by show (acc.push _).size ≤ sizeLine + 1; rw [Array.size_push]; omega)
    (refine codeAny_builtin F.entry_extend_loop ?_)
    (rw [Around.under_plainId F.plain_extend_loop _])
    show wpAny _ A.in1 (pyNext (.ref z) >>= _) _ _ { s with heap := h }
    refine wpAny_bind ?_
    rcases D.zs with ⟨hz0, a, b, hTO⟩ | ⟨T, f, oT, hz0, hT, t1, t2, t3, t4⟩
    · refine wpAny_pyNext_zip_item (s := { s with heap := h }) (A := A.in1) Z hz0 D.ti hTO D.it1 D.it2 L1 L2 eu2 ev2 fun h' a1 a2 a3 a4 a5 a6 hk => ?_
      exact push h' hk (D.more Z ru rv gx gy b0 nTI nTO nz n1 n2 hk a6 (.inl a1) a3 a4 a5 ⟨_, a2⟩)
    · refine wpAny_pyNext_zip_item_held (s := { s with heap := h }) (A := A.in1) Z hz0 hT D.ti D.it1 D.it2 L1 L2 eu2 ev2 fun h' a1 a3 a4 a5 a6 hk => ?_
      have hk' : ∀ c o, c ≠ z → c ≠ TO → c ≠ i1 → c ≠ i2 → h.get? c = some o → h'.get? c = some o := fun c o c1 _ c2 c3 e => hk c o c1 c2 c3 e
      obtain ⟨oo, eo⟩ := D.tot
      exact push h' hk' (D.more Z ru rv gx gy b0 nTI nTO nz n1 n2 hk' a6 (.inr (.inr ⟨T, oT, a1, hk T oT t1 t2 t3 hT, t1, t2, t3, t4⟩)) a3 a4 a5 ⟨oo, hk TO oo Z.TOz Z.TOi1 Z.TOi2 eo⟩)
end
/-- list(z), z a zip that was just made -/
theorem call_listZ {P : Program} {w : World} {A : Around} {s : Shared} {H1 : Hp} {l1 l2 : Addr} {xs ys : List V} {us vs : List Value} {h' : Heap} {Q : Value → Shared → Prop} {E : Value → Shared → Prop} (hA : A.handled = none) (hok : HOk P w H1 s.heap)
    (q1 : s.heap.IsList l1 us.toArray) (q2 : s.heap.IsList l2 vs.toArray) (r1 : Vals xs us) (r2 : Vals ys vs) (hlen : xs.length ≤ sizeLine) (lt1 : l1 < s.heap.objs.size) (lt2 : l2 < s.heap.objs.size)
    (zz : IsZip h' (s.heap.objs.size + 4) (s.heap.objs.size + 2) (s.heap.objs.size + 3) .none) (zTI : IsPair h' (s.heap.objs.size + 2) (.ref s.heap.objs.size) (.ref (s.heap.objs.size + 1))) (zTO : IsPair h' (s.heap.objs.size + 3) .none .none)
    (z1 : h'.IsListIter s.heap.objs.size l1 0) (z2 : h'.IsListIter (s.heap.objs.size + 1) l2 0) (zs : h'.objs.size = s.heap.objs.size + 5) (zk : ∀ c o, s.heap.get? c = some o → h'.get? c = some o)
    (hQ : ∀ h H acc out, Fz P w s.heap H1 h'.objs.size xs ys h H acc out → Q (.ref h'.objs.size) { s with heap := h }) : wpAny (model P w) A (call (.type "list") [.ref (s.heap.objs.size + 4)]) Q E { s with heap := h' } := by
  refine callType_codes (Q₁ := fun obj st => obj = .ref h'.objs.size ∧ st = { s with heap := h'.push { cls := .type "list", data := .seq #[] } }) F.called_list (F.typeCall_list_1 _) F.entry_list_init (code_list_new _ ⟨rfl, rfl⟩) fun obj st hst => ?_
  obtain ⟨rfl, rfl⟩ := hst
  have e0 : (h'.push { cls := .type "list", data := .seq #[] }).get? h'.objs.size = some { cls := .type "list", data := .seq #[] } := Heap.get?_push_size _ rfl
  refine ⟨⟨_, e0, rfl⟩, F.args_list_init_2 _ _, ?_⟩
  show wpAny _ A.in1.in1 (do let old ← Builtin.List.listItems (.ref h'.objs.size); Builtin.List.listUpdate (.ref h'.objs.size) (fun _ => #[]); letGo old.toList.reverse; Builtin.List.listExtendWith (.ref h'.objs.size) (.ref (s.heap.objs.size + 4)) .none) _ _ _
  refine wpAny_bind ?_
  unfold Builtin.List.listItems
  refine wpAny_bind (wpAny_seqItems e0 rfl (wpAny_pure ?_))
  show wpAny _ A.in1.in1 (updateSeq h'.objs.size (fun _ => #[]) >>= fun _ => letGo (#[] : Array Value).toList.reverse >>= fun _ => Builtin.List.listExtendWith (.ref h'.objs.size) (.ref (s.heap.objs.size + 4)) .none) _ _ _
  refine wpAny_bind (wpAny_updateSeq e0 rfl ?_)
  have e1 := Heap.get?_update_self (Obj.mapSeq (fun _ => (#[] : Array Value))) e0 rfl
  (refine wpAny_bind (wpAny_letGo ?_))
  (unfold Builtin.List.listExtendWith)
  have nS : ∀ {c o}, h'.get? c = some o → c ≠ h'.objs.size := fun e => Nat.ne_of_lt (Heap.lt_size e)
  have kU : ∀ (g : Heap) (f : Obj → Obj), (∀ c o, h'.get? c = some o → g.get? c = some o) → ∀ c o, h'.get? c = some o → (g.update h'.objs.size f).get? c = some o := fun g f q c o e => (Heap.get?_update_other _ _ (Ne.symm (nS e))).trans (q c o e)
  have k0 : ∀ c o, h'.get? c = some o → (h'.push { cls := .type "list", data := .seq #[] }).get? c = some o := fun c o e => Heap.get?_push_of_some _ e
  have k1 := kU _ (Obj.mapSeq (fun _ => (#[] : Array Value))) k0
  have ty : ∀ {g : Heap}, (∀ c o, h'.get? c = some o → g.get? c = some o) → ({ s with heap := g } : Shared).TypeIs (.ref (s.heap.objs.size + 4)) "zip" := fun {g} q => ⟨_, q _ _ zz, rfl⟩
  refine wpAny_bind (wpAny_typeOf (ty k1) ?_)
  have ne : ∀ i : Nat, i < 5 → ¬ (s.heap.objs.size + i = h'.objs.size) := fun i hi q => by
    rw [zs] at q
    omega
  have b1 : Builtin.List.listSameRef (.ref h'.objs.size) (.ref (s.heap.objs.size + 4)) = false := by
    exact beq_false_of_ne fun q => ne 4 (by decide) q.symm
  have b2 : (Value.type "zip" == Value.type "list") = false := by decide
  have b3 : (Value.type "zip" == Value.type "tuple") = false := by decide
  simp only [b1, b2, b3, Bool.or_false, Bool.false_eq_true, if_false]
  refine wpAny_bind (wpAny_pyIter_zip (s := { s with heap := _ }) (k1 _ _ zz) ?_)
  (refine wpAny_bind (wpAny_holding ?_))
  (unfold Builtin.List.listLengthHint)
  refine wpAny_bind (wpAny_specialOf (ty k1) zip_len0 ?_)
  show wpAny _ A.in1.in1 (specialOf (Value.ref (s.heap.objs.size + 4)) (Str.ofString "__length_hint__") >>= _) _ _ _
  refine wpAny_bind (wpAny_specialOf (ty k1) zip_hint0 ?_)
  refine wpAny_pure ?_
  show wpAny _ A.in1.in1 (rule "list.extend.makes-room" >>= fun _ => Builtin.List.listTouch (.ref h'.objs.size) >>= fun _ => again (.builtin "list.extend.loop" ⟨[.ref h'.objs.size, .ref (s.heap.objs.size + 4), .none], []⟩)) _ _ _
  (refine wpAny_bind (wpAny_rule ?_))
  refine wpAny_bind ?_
  show wpAny _ A.in1.in1 (updateSeq h'.objs.size (·.push .none) >>= fun _ => updateSeq h'.objs.size (·.pop)) _ _ _
  refine wpAny_bind (wpAny_updateSeq e1 rfl ?_)
  have e2 := Heap.get?_update_self (Obj.mapSeq (·.push Value.none)) e1 rfl
  refine wpAny_updateSeq (hz := by seq_fits) e2 rfl ?_
  have e3 := Heap.get?_update_self (Obj.mapSeq (·.pop)) e2 rfl
  have k3 := kU _ (Obj.mapSeq (·.pop)) (kU _ (Obj.mapSeq (·.push Value.none)) k1)
  (refine wpAny_pure ⟨plainId_quiet F.plain_extend_loop _, ?_⟩)
  have fr : ∀ {c : Nat}, s.heap.objs.size ≤ c → H1 c = none := fun hc => hok.fresh hc
  have Z := PySem.W.ktu_apart s.heap.objs.size l1 l2 lt1 lt2
  refine drainZ (s := s) (H1 := H1) (xs := xs) (ys := ys) (us := us) (vs := vs) (A := A.in1) (h0 := s.heap) hA Z (fun b q => ?_) (ne 2 (by decide)) (ne 3 (by decide)) (ne 4 (by decide)) (ne 0 (by decide)) (ne 1 (by decide)) q1 q2 r1 r2 hlen
    (fun h H acc out F0 => ⟨rfl, hQ h H acc out F0⟩) (min xs.length ys.length) 0 _ H1 _ [] (by omega) ⟨fun b o e => k3 b o (zk b o e), ?_, hok.kept fun b o e => k3 b o (zk b o e), fun _ _ e => e, fun b n e => absurd e n, k3 _ _ zTI, ⟨_, k3 _ _ zTO⟩, z1.at fun o e => k3 _ o e, z2.at fun o e => k3 _ o e, .inl ⟨k3 _ _ zz, _, _, k3 _ _ zTO⟩, ⟨_, e3⟩, .nil, ⟨rfl, fun j hj => absurd hj (Nat.not_lt_zero j)⟩, fr (Nat.le_add_right _ _), fr (Nat.le_add_right _ _), fr (Nat.le_refl _), fr (Nat.le_add_right _ _), fr (by rw [zs]; exact Nat.le_add_right _ _)⟩
  · rcases q with rfl | rfl | rfl | rfl | rfl
    · exact Nat.le_add_right _ _
    · exact Nat.le_add_right _ _
    · exact Nat.le_refl _
    · exact Nat.le_add_right _ _
    · rw [zs]
      exact Nat.le_add_right _ _
  · rw [Heap.size_update, Heap.size_update, Heap.size_update, Heap.size_push]
    omega
def tLZ (K : PySem.W.Frag) (ta : TA) : TE := fun σ H Q => ta σ H fun vs H1 => ∃ l1 l2 xs ys, vs = [.ref l1, .ref l2] ∧ SqL K H1 l1 xs ∧ SqL K H1 l2 ys ∧ ∀ H2 out p, (∀ b o, H1 b = some o → H2 b = some o) → PairsAt H1 H2 xs ys (min xs.length ys.length) out → out.length ≤ sizeLine → H2 p = none → Q (.ref p) (upd H2 p (.lst out))
section
variable {X : Cx} {ta : TA} {a b : Expr} {p1 p2 pz pos : Pos} {k : Nat}
theorem pe_listZ (hr : Room k X.A) (hl : X.mg "list" = none) (hz : X.mg "zip" = none) (ha : PA X [a, b] ta) (g1 : Gl X "list" := by rfl) (g2 : Gl X "zip" := by rfl) (hs : starEach [a, b] X.env = (false, eval a X.env) :: starEach [b] X.env := by rfl)
    (hpl : (backTo pz (starEach [b] X.env)).any (·.1) = false := by rfl) (he : starEach [.Call (.Name "zip" p2) [a, b] [] pz] X.env = (false, eval (.Call (.Name "zip" p2) [a, b] [] pz) X.env) :: starEach [] X.env := by rfl) :
    PE X (.Call (.Name "list" p1) [.Call (.Name "zip" p2) [a, b] [] pz] [] pos) (tLZ X.K ta) := by
  (refine ⟨fun pins s σ H Q I h => ?_⟩)
  refine wpAny_Call_Name_kw (ld_blt I g1 hl (show bootBuiltins "list" = some (.type "list") from rfl) ?_)
  (refine PyProof.Rows.callWith_type1 ?_ he rfl)
  rw [he]
  show wpAny _ _ (spliced ((false, eval (.Call (.Name "zip" p2) [a, b] [] pz) X.env) :: backTo pos (starEach [] X.env))) _ _ s
  refine Calls.spliced_cons ?_
  refine Call_ (ld_blt I g2 hz PyProof.Rows.boot_zip (PyProof.Rows.callWith_type1 (thn (ha.run pz pins s σ H _ I h) fun us s1 ⟨vs, H1, I1, r1, q⟩ => ?_) hs hpl))
  obtain ⟨l1, l2, xs, ys, rfl, hx, hy, q⟩ := q
  obtain ⟨u1, u2, rfl, ra, rb⟩ := vals2 r1
  cases ra
  cases rb
  obtain ⟨its, rv, P1, z1⟩ := I1.list hx
  obtain ⟨its2, rv2, P2, z2⟩ := I1.list hy
  refine call_zip_2 P1.isList P2.isList fun h' b1 b2 b3 b4 b5 b6 b7 => ?_
  refine Calls.spliced_nil ?_
  refine call_listZ (s := s1) hr.hd I1.hok P1.isList P2.isList rv rv2 z1 P1.lt P2.lt b1 b2 b3 b4 b5 b6 b7 fun h H' acc out Fz0 => ?_
  obtain ⟨c, hl0⟩ := Fz0.lst
  have ho : out.length ≤ sizeLine := by
    rw [Fz0.prs.1]
    omega
  refine ⟨.ref h'.objs.size, upd H' h'.objs.size (.lst out), I1.drained (s' := { s1 with heap := h }) (by omega) ho hl0 Fz0.rel .nil rfl I1.bare ⟨fun b o e _ _ _ => Fz0.keep b o e, fun b o e _ _ _ => ⟨o.slots, Fz0.keep b o e⟩, fun b o e n _ => ?_, fun b o e _ => ⟨o, Fz0.keep b o e⟩, fun b x e => Fz0.same b _ e, fun b o x e => Fz0.same b _ e, fun b ps e => ⟨#[], by rw [Array.append_empty]; exact Fz0.same b _ e⟩⟩ Fz0.hok Fz0.hS, rfl, q _ _ _ Fz0.same Fz0.prs ho Fz0.hS⟩
  cases z : H' b with
  | none => rfl
  | some o2 => exact absurd (Fz0.new b (by rw [z]; simp) n) (Nat.not_le.mpr (Heap.lt_size e))
end
/-- list(zip(a, b)) -/
def dListZip (fr : S → M (List D × S)) : S → M (D × S) := fun s => bd (fr s) fun p => match p.1 with
  | [.lst ds, .lst es] => ok (.lst (zipD ds es), p.2)
  | _ => none
theorem rpA_of {K : PySem.W.Frag} {cl : Cl} {H : Hp} : ∀ {vs : List V} {ds : List D}, vs.length = ds.length → (∀ (j : Nat) (d : D), ds[j]? = some d → ∃ v, vs[j]? = some v ∧ Rp K cl H v d) → RpA K cl H vs ds
  | [], [], _, _ => .nil
  | [], _ :: _, h, _ => by (cases h)
  | _ :: _, [], h, _ => by (cases h)
  | v :: vs, d :: ds, h, r => by
    obtain ⟨v', e, q⟩ := r 0 d rfl
    cases e
    exact .cons q (rpA_of (Nat.succ.inj h) fun j d' e => r (j + 1) d' e)
section
variable {X : Cx} {cl : Cl} {wx : WX} {a b : Expr} {p1 p2 pz pos : Pos} {k : Nat} {fr : S → M (List D × S)}
theorem d_listzip (hr : Room k X.A) (hl : X.mg "list" = none) (hz : X.mg "zip" = none) (ha : PA X [a, b] (TAof X.K cl wx fr)) (g1 : Gl X "list" := by rfl) (g2 : Gl X "zip" := by rfl) (hs : starEach [a, b] X.env = (false, eval a X.env) :: starEach [b] X.env := by rfl)
    (hpl : (backTo pz (starEach [b] X.env)).any (·.1) = false := by rfl) (he : starEach [.Call (.Name "zip" p2) [a, b] [] pz] X.env = (false, eval (.Call (.Name "zip" p2) [a, b] [] pz) X.env) :: starEach [] X.env := by rfl) :
    PE X (.Call (.Name "list" p1) [.Call (.Name "zip" p2) [a, b] [] pz] [] pos) (TEof X.K cl wx (dListZip fr)) := by
  refine iE (pe_listZ hr hl hz ha g1 g2 hs hpl he) ?_
  rintro σ H Q ⟨w, L, sd, W, h⟩
  refine ⟨w, L, sd, W, PostA.bd botE h fun rs s1 h vs H1 st1 W1 rr => ?_⟩
  dsimp only at h
  split at h
  · next ds es =>
    obtain ⟨v, u, rfl, rv, ru⟩ := rr.two
    cases rv with
    | @lst l1 xs _ q1 r1 =>
      cases ru with
      | @lst l2 ys _ q2 r2 =>
        refine ⟨l1, l2, xs, ys, rfl, hide_le.seq q1, hide_le.seq q2, fun H2 out p sm pr ho np => ?_⟩
        have sm2 : Same H1 (upd H2 p (.lst out)) := fun b o e => same_upd np b o (sm b o e)
        have al : ∀ c ∈ L ++ w.O0, (upd H2 p (.lst out)) c ≠ none := (W1.ext sm2).alive
        have np1 : H1 p = none := by
          cases z : H1 p with
          | none => rfl
          | some o =>
            have := sm p o z
            rw [np] at this
            cases this
        have hid : Same (hide (L ++ w.O0) H1) (hide (L ++ w.O0) (upd H2 p (.lst out))) := fun c o e => by
          obtain ⟨n, e⟩ := hide_some.mp e
          exact hide_some.mpr ⟨n, sm2 c o e⟩
        refine h _ _ (st1.trans (.of_same sm2)) (W1.ext sm2) (.lst (.inl (.inl (hide_some.mpr ⟨W1.new_ne np1, upd_same⟩))) (rpA_of ?_ fun j d e => ?_))
        · rw [pr.1, zipD_len, r1.len, r2.len]
        · have hj : j < (zipD ds es).length := (List.getElem?_eq_some_iff.mp e).1
          rw [zipD_len] at hj
          obtain ⟨T, x, y, e1, e2, e3, e4, e5⟩ := pr.2 j (by rw [r1.len, r2.len]; exact hj)
          have g1 : ds[j]? = some ds[j] := List.getElem?_eq_getElem (by omega)
          have g2 : es[j]? = some es[j] := List.getElem?_eq_getElem (by omega)
          rw [zipD_get ds es j _ _ g1 g2] at e
          cases e
          obtain ⟨x', k1, k2⟩ := r1.get j g1
          obtain ⟨y', k3, k4⟩ := r2.get j g2
          rw [e2] at k1
          cases k1
          rw [e3] at k3
          cases k3
          have nT : T ∉ L ++ w.O0 := W1.new_ne e5
          exact ⟨.ref T, e1, .tup (.inl (.inl (hide_some.mpr ⟨nT, same_upd np _ _ e4⟩))) (.cons (k2.mono hid) (.cons (k4.mono hid) .nil))⟩
  · exact h.elim
end
end Dt
namespace Dt
open L2 PySem PySem.Spec PyProof.Rows
/-! ### texts told apart -/
def eqS : Op2 := fun d e => match d, e with
  | .str x, .str y => ok (.bl (decide (x = y)))
  | _, _ => none
def neS : Op2 := fun d e => match d, e with
  | .str x, .str y => ok (.bl (!decide (x = y)))
  | _, _ => none
section
variable {X : Cx} {K : PySem.W.Frag} {cl : Cl} {wx : WX}
theorem dec_strV {x y : Str} : decide (V.str x = V.str y) = decide (x = y) := by
  rw [Bool.eq_iff_iff]
  simp
theorem k_eqS : OpK X K cl (compareOp .Eq) eqS := by
  refine ⟨_, op_eq, fun O H x y d e Q _ rx ry h => ?_⟩
  unfold eqS at h
  split at h
  · cases rx
    cases ry
    exact ⟨rfl, by rw [dec_strV]; exact h.now (.bl _)⟩
  · exact h.elim
theorem k_neS : OpK X K cl (compareOp .NotEq) neS := by
  refine ⟨_, op_ne, fun O H x y d e Q _ rx ry h => ?_⟩
  unfold neS at h
  split at h
  · cases rx
    cases ry
    exact ⟨rfl, by rw [dec_strV]; exact h.now (.bl _)⟩
  · exact h.elim
end
end Dt
namespace Dt
open L2 PySem PySem.Spec PyProof.Rows
/-! ### xs.index(e) -/
def idxD (d e : D) : M D := match d with
  | .lst xs => if e.plain && D.plains xs && SeqAt.shaped e.py && SeqAt.shaped (.list (D.pys xs)) then match (D.pys xs).findIdx? (fun z => PyData.eqv z e.py) with
    | some j => ok (.int (j : Nat))
    | none => none
    else none
  | _ => none
def dIdx (fa fb : S → M (D × S)) : S → M (D × S) := fun s => bd (fa s) fun p => match p.1 with
  | .lst xs => bd (fb p.2) fun q => bd (idxD (.lst xs) q.1) fun r => ok (r, q.2)
  | _ => none
section
variable {X : Cx} {cl : Cl} {wx : WX} {o e : Expr} {fa fb : S → M (D × S)} {apos cpos : Pos}
theorem d_index (hu : X.A.units + 65 < cLine) (ho : PE X o (TEof X.K cl wx fa)) (he : PE X e (TEof X.K cl wx fb)) (hbase : attributeBase o "index" X.env (eval o X.env) = eval o X.env := by rfl)
    (hfew : ((backTo cpos (starEach [e] X.env)).all (fun x => !x.1) && (backToKw cpos (keywordEach [] X.env)).all (fun x => x.1.isSome) && decide ([e].length + ([] : List Keyword).length + (if ([] : List Keyword).isEmpty then 0 else 1) < 30)) = true := by rfl)
    (hline : (apos.endLine == cpos.line) = true := by rfl) (hs : starEach [e] X.env = (false, eval e X.env) :: starEach [] X.env := by rfl) (hpl : (backTo cpos (starEach [] X.env)).any (·.1) = false := by rfl) :
    PE X (.Call (.Attribute o "index" apos) [e] [] cpos) (TEof X.K cl wx (dIdx fa fb)) := by
  refine iE (pe_bm PySem.F.plainAttrs_list PySem.F.slot_list_index PySem.F.type_list_index (mt_indexD hu) ho (pa_cons he pa_nil hs) hbase hfew hline hs hpl) ?_
  rintro σ H Q ⟨w, L, sd, W, h⟩
  refine ⟨w, L, sd, W, PostE.bd botE h fun x s1 h v H1 st1 W1 rx => ?_⟩
  cases rx with
  | @lst ad xs ds sq rs =>
    refine ⟨.inl ⟨rfl, _, hide_le.seq sq⟩, w, L, s1, W1, PostE.bd botE h fun y s2 h u H2 st2 W2 ry => ?_⟩
    have h' := h.fin (st1.trans st2) W2
    unfold idxD at h'
    dsimp only at h'
    split at h'
    · next c =>
      simp only [Bool.and_eq_true] at c
      obtain ⟨⟨⟨c1, c2⟩, c3⟩, c4⟩ := c
      have rl := ((Rp.lst sq rs).mono (st2.sn W2)).mono hide_le
      split at h'
      · next j ej =>
        obtain ⟨hj, q1, q2⟩ := List.findIdx?_eq_some_iff_getElem.mp ej
        have d1 := rp_dp (D.lst ds) _ rl (by rw [D.plain]; exact c2)
        rw [D.py] at d1
        refine ⟨ad, u, y.py, D.pys ds, j, (D.pys ds)[j], rfl, rfl, d1, rp_dp y _ (ry.mono hide_le) c1, c4, c3, List.getElem?_eq_getElem hj, q1, fun m z' hm e' => ?_, h'.now (.int _)⟩
        obtain ⟨hm', ez⟩ := List.getElem?_eq_some_iff.mp e'
        have := q2 m hm
        rw [ez] at this
        simpa using this
      · exact h'.elim
    · exact h'.elim
  | _ => exact h.elim
/-- a constant of the module -/
theorem d_gint {x : Str} {i : Int} {K : PySem.W.Frag} {pos : Pos} (hm : ∃ t, X.mg x = some (.int i t)) (hg : Gl X x := by rfl) (hd : (x == ("__debug__" : Str)) = false := by decide) : PE X (.Name x pos) (TEof K cl wx (dC (.int i))) := by
  obtain ⟨t, hm⟩ := hm
  exact dC_of (pe_glob hg hm (v := .int i) ⟨t, rfl⟩ hd) fun _ => .int i
end
/-- two keywords in the other order -/
def sw2 {α : Type} : List α → List α
  | [a, b] => [b, a]
  | l => l
theorem vals_sw2 {vs : List V} {us : List Value} (h : Vals vs us) : Vals (sw2 vs) (sw2 us) := by
  cases h with
  | nil => exact .nil
  | cons r1 t =>
    cases t with
    | nil => exact .cons r1 .nil
    | cons r2 t =>
      cases t with
      | nil => exact .cons r2 (.cons r1 .nil)
      | cons r3 t => exact .cons r1 (.cons r2 (.cons r3 t))
theorem rpA_sw2 {K : PySem.W.Frag} {cl : Cl} {H : Hp} {vs : List V} {ds : List D} (h : RpA K cl H vs ds) : RpA K cl H (sw2 vs) (sw2 ds) := by
  cases h with
  | nil => exact .nil
  | cons r1 t =>
    cases t with
    | nil => exact .cons r1 .nil
    | cons r2 t =>
      cases t with
      | nil => exact .cons r2 (.cons r1 .nil)
      | cons r3 t => exact .cons r1 (.cons r2 (.cons r3 t))
end Dt
namespace Dt
open L2 PySem PySem.Spec PyProof.Rows
/-! ### def f(*v) -/
structure FnV (P : Program) (w : World) (K : PySem.W.Frag) (mg : Str → Option Value) (base : Heap) (k : Nat) (f : Addr) (sp : Sp) : Prop where
  go : ∀ (A : Around) (outer : List Env) (s : Shared) (H : Hp) (us : List Value) (vs : List V) (Q : VK) (E : XK), A.guards = some [] → Room k A →
    Env0 P w K mg base A outer s H → Vals vs us → sp vs H Q E → codeAny (model P w) A (.call (.ref f) ⟨us, []⟩) (CR (L2.CX P w) outer P w H s Q E) s
/-- all arguments as one tuple -/
def spV (K : PySem.W.Frag) (cl : Cl) (g : FnD) : Sp := fun vs H Q E => ∃ (O : List Addr) (ds : List D), (∀ a ∈ O, H a ≠ none) ∧ RpA K cl (hide O H) vs ds ∧ ds.length ≤ sizeLine ∧ FinD K cl O H Q E (g [.tup ds])
theorem FnV.mono {P : Program} {w : World} {K : PySem.W.Frag} {mg : Str → Option Value} {base : Heap} {k j : Nat} {f : Addr} {sp : Sp} (F : FnV P w K mg base j f sp) (h : j ≤ k) : FnV P w K mg base k f sp :=
  ⟨fun A outer s H us vs Q E hg hr => F.go A outer s H us vs Q E hg (hr.mono h)⟩
theorem okV {P : Program} {w : World} {K : PySem.W.Frag} {cl : Cl} {wx : WX} {mg : Str → Option Value} {base : Heap} {k : Nat} {f : Addr} {fd : FuncData} {pv x qual : Str} {params : Arguments} {body : List Stmt} {scope : Scope} {N : List Str} {F : S → M Out} {g : FnD}
    (D0 : FunD K x qual params body scope [] [] f fd) (sc : FnScope N [pv] scope) (eg : g = runP N.length F)
    (hb : ∀ (kV doc pm : Value) (an : Option Addr) (cdv ct : Value) (rest : List Value), bindArgs (PySem.W.fnOf x qual params body scope .none kV doc pm an cdv ct) ⟨rest, []⟩ = (newTuple rest >>= fun t => pure [(pv, t)]))
    (h : ∀ (cdv : Value) (A : Around) (outer : List Env) (s : Shared) (H : Hp) (E : XK), A.guards = some [] → Room k (A.deeper (envOfC qual scope s.heap.objs.size f cdv)) →
      Takes (cxOf (L2.CX P w) P w K mg base N qual scope f cdv A outer s H E) (wxE E) → PassesOwn (model P w) (cxOf (L2.CX P w) P w K mg base N qual scope f cdv A outer s H E).A (cxOf (L2.CX P w) P w K mg base N qual scope f cdv A outer s H E).env (cxOf (L2.CX P w) P w K mg base N qual scope f cdv A outer s H E).xe →
      ∃ ts, PSs (cxOf (L2.CX P w) P w K mg base N qual scope f cdv A outer s H E) body (TSof K cl (wxE E) ts F)) : FnV P w K mg base (k + 1) f (spV K cl g) := by
  subst eg
  obtain ⟨oc, od, dV, kV, doc, pm, an, cdv, ct, osl, rfl, lk, hcd, hD, _⟩ := D0.ex
  have hdv : dV = .none := by
    rcases hD with ⟨_, z⟩ | ⟨z, _⟩
    · exact z
    · exact absurd rfl z
  subst hdv
  refine ⟨fun A outer s H us vs Q E hg hr e0 rv hsp => ?_⟩
  obtain ⟨O, ds, al, rs, hl, hq⟩ := hsp
  have np : H s.heap.objs.size = none := e0.hok.fresh (Nat.le_refl _)
  have len : us.length ≤ sizeLine := by
    rw [← rv.length, rs.len]
    exact hl
  refine StX.run_bnd (CX := L2.CX P w) lk hcd sc hr e0 (G := fun xs H2 => xs = [V.ref s.heap.objs.size] ∧ H2 = upd H s.heap.objs.size (.tup vs)) (fun A' Ex Q' z => ?_) fun s2 H2 xs ⟨ex, eH⟩ hr' => ?_
  · rw [hb]
    refine wpAny_bind (wpAny_newTuple (wpAny_pure ?_) len)
    have new : ObjOk P w (upd H s.heap.objs.size (.tup vs)) (s.heap.push ({ cls := .type "tuple", data := .seq us.toArray } : Obj)) s.heap.objs.size (.tup vs) := ⟨by rw [rs.len]; exact hl, us, rv, ⟨_, Heap.get?_push_size _ rfl, rfl, _, rfl⟩⟩
    have un := StX.un_laid (fs := frs outer) (s := s) (o := ({ cls := .type "tuple", data := .seq us.toArray } : Obj)) (u := .tup vs) np
    exact z _ _ [V.ref s.heap.objs.size] [Value.ref s.heap.objs.size] (StX.env0_laid e0 new) un rfl (fun e s' => StX.cxUp outer s H _ _ E e s' un (fun b o q => Heap.get?_push_of_some _ q) rfl) (.cons rfl .nil) rfl ⟨rfl, rfl⟩
  · subst ex eH
    obtain ⟨ts, hw⟩ := h cdv A outer s2 (upd H s.heap.objs.size (.tup vs)) E hg hr' (takes_of rfl rfl rfl rfl) (passes_of rfl)
    have sm := same_upd (o := .tup vs) np
    have pr : spP K cl 1 (runP N.length F) [V.ref s.heap.objs.size] (upd H s.heap.objs.size (.tup vs)) Q E := by
      refine ⟨rfl, O, [.tup ds], fun a ha => ?_, .cons (.tup (.inl (.inl (hide_new al np))) (rs.mono (hide_upd np))) .nil, ?_⟩
      · have n := al a ha
        cases q : H a with
        | none => exact absurd q n
        | some o =>
          rw [sm a o q]
          simp
      · generalize runP N.length F [.tup ds] = m at hq
        match m, hq with
        | none, hq => exact hq.elim
        | some (.ex _ _), hq => exact fun cls d H' a b => hq cls d H' (fun b' o' e' => a b' o' (sm b' o' e')) b
        | some (.ok r), hq => exact fun v H' a b => hq v H' (fun b' o' e' => a b' o' (sm b' o' e')) b
    obtain ⟨t, t1, t2⟩ := walkP hw pr
    exact ⟨t, t1, t2⟩
/-! ### calls f(e, ..) of def f(*v) -/
def dCallV (g : FnD) (fr : S → M (List D × S)) : S → M (D × S) := fun s => bd (fr s) fun p => if p.1.length ≤ sizeLine then bdC (g [.tup p.1]) p.2 fun r => ok (r, p.2) else none
section
variable {X : Cx} {k : Nat} {f : Addr} {x : Str} {p pos : Pos} {e : Expr} {es : List Expr} {cl : Cl} {wx : WX} {fr : S → M (List D × S)} {g : FnD}
theorem d_callV (F : FnV X.prog X.w X.K X.mg X.base k f (spV X.K cl g)) (hgd : X.A.guards = some []) (hr : Room k X.A) (hm : X.mg x = some (.ref f)) (hk : PySem.W.keepIn X.K (.ref f) = true)
    (ha : PA X (e :: es) (TAof X.K cl wx fr)) (hg : Gl X x := by rfl) (hdb : (x == ("__debug__" : Str)) = false := by decide) (hs : starEach (e :: es) X.env = (false, eval e X.env) :: starEach es X.env := by rfl)
    (hpl : (backTo pos (starEach es X.env)).any (·.1) = false := by rfl) (tk : Takes X wx := by first | assumption | exact takes_no) : PE X (.Call (.Name x p) (e :: es) [] pos) (TEof X.K cl wx (dCallV g fr)) := by
  constructor
  intro pins s σ H Q I h
  obtain ⟨w, L, sd, W, h⟩ := h
  have h2 : TAof X.K cl wx fr σ H (fun vs H1 => spV X.K cl g vs H1 Q (WE wx σ)) := by
    refine ⟨w, L, sd, W, PostA.bd botE h fun rs s1 h vs H1 st1 W1 rrs => ?_⟩
    dsimp only at h
    split at h
    · next c => exact ⟨L ++ w.O0, rs, W1.alive, rrs, c, h.finC st1 W1⟩
    · exact h.elim
  refine wpAny_Call_Name_kw (ld_glob I hg hm (PySem.W.callWith_K (h₀ := X.base) I.ok.mod.kin hk (thn (ha.run pos pins s σ H _ I h2) ?_) hs hpl) hdb)
  rintro us s1 ⟨vs, H1, I1, r, q⟩
  exact ⟨I1.kIn, ran (passAt tk σ) I1 (F.go X.A X.stack s1 H1 us vs Q (WE wx σ) hgd hr I1.env0 r q)⟩
theorem d_callV0 (F : FnV X.prog X.w X.K X.mg X.base k f (spV X.K cl g)) (hgd : X.A.guards = some []) (hr : Room k X.A) (hm : X.mg x = some (.ref f)) (hk : PySem.W.keepIn X.K (.ref f) = true)
    (hg : Gl X x := by rfl) (hdb : (x == ("__debug__" : Str)) = false := by decide) (tk : Takes X wx := by first | assumption | exact takes_no) : PE X (.Call (.Name x p) [] [] pos) (TEof X.K cl wx (dCallV g aNil)) := by
  constructor
  intro pins s σ H Q I h
  obtain ⟨w, L, sd, W, h⟩ := h
  have h : PostE X.K cl wx w L σ H Q (if ([] : List D).length ≤ sizeLine then bdC (g [.tup []]) sd fun r => ok (r, sd) else none) := h
  have hz : ([] : List D).length ≤ sizeLine := Nat.zero_le sizeLine
  rw [if_pos hz] at h
  exact wpAny_Call_Name_kw (ld_glob I hg hm (PySem.W.callWith_K0 I.kIn hk (ran (passAt tk σ) I (F.go X.A X.stack s H [] [] Q (WE wx σ) hgd hr I.env0 .nil ⟨L ++ w.O0, [], W.alive, .nil, hz, h.finC .refl W⟩))) hdb)
end
/-! ### a, b = ([], []), lists of the def's own -/
def sParNew (i j : Nat) : S → M Out := fun s => ok (.nx ((s.set i (.own (.lst []))).set j (.own (.lst []))))
section
variable {X : Cx} {K : PySem.W.Frag} {cl : Cl} {wx : WX}
theorem step_new {w : Wf} {L : List Addr} {H : Hp} {p : Addr} {o : HO} (np : H p = none) : Step w L H (p :: L) (upd H p o) := by
  have st : Step w L H L (upd H p o) := .of_same (same_upd np)
  refine ⟨st.keep, st.alv, fun a ha => ?_⟩
  rcases List.mem_cons.mp ha with z | z
  · exact .inr (z ▸ np)
  · exact .inl z
theorem wl_new {w : Wf} {L : List Addr} {sd : S} {σ : L2.St} {H : Hp} {p : Addr} (i : Nat) (W : Wl K cl w L sd σ H) (np : H p = none) : Wl K cl w (p :: L) (sd.set i (.own (.lst []))) (σ.set i (some (.ref p))) (upd H p (.lst [])) :=
  Wl.setOwn i (W.ext (same_upd np)) (W.new_ne np) (W.made (same_upd np) np (by rw [upd_same]; simp)) ⟨[], upd_same, .nil⟩
theorem s_parNew {i j : Nat} {x y : Str} {px py pt p1 p2 pos : Pos} {kt k2 pt2} (hc : X.calm = true) (hN : X.N.Nodup) (hi : X.N[i]? = some x := by rfl) (hj : X.N[j]? = some y := by rfl) (hij : i ≠ j := by decide)
    (hx : X.env.scope.names.lookup x = some .local := by rfl) (hy : X.env.scope.names.lookup y = some .local := by rfl) (h1 : starEach [.List [] p1, .List [] p2] X.env = (false, eval (.List [] p1) X.env) :: starEach [.List [] p2] X.env := by rfl) (h2 : starEach [.List [] p2] X.env = (false, eval (.List [] p2) X.env) :: starEach [] X.env := by rfl)
    (hw : swappedStores [.Tuple [.Name x px, .Name y py] kt pt] (.Tuple [.List [] p1, .List [] p2] k2 pt2) X.env = pure (some [x, y]) := by rfl)
    (hs : swapsWithSole [.Tuple [.Name x px, .Name y py] kt pt] (.Tuple [.List [] p1, .List [] p2] k2 pt2) pos.line X.env = pure false := by rfl) :
    PS X (.Assign [.Tuple [.Name x px, .Name y py] kt pt] (.Tuple [.List [] p1, .List [] p2] k2 pt2) pos) (TSof K cl wx ([i] ++ [j]) (sParNew i j)) := by
  refine iS (ps_par hc hN hi hj hij hx hy (pa_cons (pe_lst pa_nil) (pa_cons (pe_lst pa_nil) pa_nil h2) h1) hw hs) ?_
  rintro E σ H ⟨w, L, sd, W, h⟩
  refine ⟨Nat.zero_le _, fun p np => ⟨Nat.zero_le _, fun q nq => ⟨.ref p, .ref q, rfl, ?_⟩⟩⟩
  exact h (q :: p :: L) _ _ ((step_new np).trans (step_new nq)) (wl_new j (wl_new i W np) nq) (agree_set.trans agree_set)
end
end Dt
namespace Dt
open L2 PySem PySem.Spec PyProof.Rows
/-! ### enumerate of a tuple -/
theorem meets_enumerate_newB1 {v : Value} {o : Obj} {H : Heap → Prop} (B : Begins v o H) :
    Meets (Builtin.«enumerate.__new__» ⟨[.type "enumerate", v], []⟩) (fun _ R s => H s.heap ∧
      R (.ok (.ret (.ref (s.heap.push o).objs.size))) { s with heap := (s.heap.push o).push { cls := .type "enumerate", data := .fields #[.none, .bool false, .ref s.heap.objs.size, rawInt 0, .none, .none] } }) :=
  .of_wp fun pr wd A R st0 h0 => by
    obtain ⟨hp, g, d, tk, os⟩ := st0; obtain ⟨h1, h⟩ := h0
    have hsub := sub_enumerate
    have q1 : ∀ {A' : Around} {E : Value → Shared → Prop} {Q : Value → Shared → Prop}, Q (.ref hp.objs.size) ⟨hp.push o, g, d, tk, os⟩ → wpAny (model pr wd) A' (pyIter v) Q E ⟨hp, g, d, tk, os⟩ :=
      fun qq => B.iter pr wd _ _ ⟨hp, g, d, tk, os⟩ _ h1 qq
    wp_walk using q1
    (refine wpAny_stack_any fun st => wpAny_pure ?_)
    split
    · rename_i c _ _ _ _ _
      (cases (c == Value.type "enumerate"))
      · wp_walk using q1
        exact ⟨_, rfl, h⟩
      · wp_walk using q1
        exact ⟨_, rfl, h⟩
    · wp_walk using q1
      exact ⟨_, rfl, h⟩
theorem call_enumerate_tup {prog : Program} {w : World} {A : Around} {E : Value → Shared → Prop} {s : Shared} {l : Addr} {items : Array Value} {Q : Value → Shared → Prop} (hT : s.heap.IsTuple l items)
    (h : ∀ h', IsEnum h' (s.heap.objs.size + 1) s.heap.objs.size 0 .none → h'.IsTupleIter s.heap.objs.size l 0 → h'.objs.size = s.heap.objs.size + 2 →
      (∀ b o, s.heap.get? b = some o
            → h'.get? b = some o) → Q (.ref (s.heap.objs.size + 1)) { s with heap := h' }) :
    wpAny (model prog w) A
          (call (.type "enumerate") [.ref l]) Q E s := by
  refine callType_new PySem.F.called_enumerate (by decide) (PySem.F.typeCall_enumerate_1 _) (PySem.F.newCall_enumerate_1 _) (fun obj => PySem.F.args_object_init_2 obj _) PySem.F.entry_enumerate_new
    (meets_enumerate_newB1 (begins_tuple l items)) ⟨hT, ?_⟩
  have hz : (s.heap.push { cls := .type "tuple_iterator", data := .fields #[.ref l, .int 0 0] }).objs.size = s.heap.objs.size + 1 := Heap.size_push ..
  show _ ∧ _
  rw [hz]
  have he : IsEnum ((s.heap.push { cls := .type "tuple_iterator", data := .fields #[.ref l, .int 0 0] }).push
      { cls := .type "enumerate", data := .fields #[.none, .bool false, .ref s.heap.objs.size, rawInt 0, .none, .none] })
            (s.heap.objs.size + 1) s.heap.objs.size 0 .none := by
    have := Heap.get?_push_size (s.heap.push { cls := .type "tuple_iterator", data := .fields #[.ref l, .int 0 0] })
      (o := { data := .fields #[.none, .bool false, .ref s.heap.objs.size, rawInt 0, .none, .none], cls := .type "enumerate" }) rfl
    rw [hz] at this; exact this
  (refine ⟨⟨_, he, rfl⟩, h _ he ⟨_, Heap.get?_push_of_some _ (Heap.get?_push_size _ rfl), rfl, rfl⟩ (by rw [Heap.size_push, hz]) fun b o x => Heap.get?_push_of_some _ (Heap.get?_push_of_some _ x)⟩)
/-- the tuple at a as it stands at each turn, each item in a new pair -/
def IteT (K : PySem.W.Frag) (a : Addr) : It :=
  ⟨fun i H => ∃ (xs : List V) (x : V), SqT K H a xs ∧ xs[i]? = some x, fun i H v H' => ∃ T x, v = .ref T ∧ H T = none ∧ H' = upd H T (.tup [.int (i : Nat), x]) ∧ ∀ xs, SqT K H a xs → xs[i]? = some x, fun i H => ∃ xs : List V, SqT K H a xs ∧ xs.length ≤ i⟩
theorem turn_enumT {P : Program} {w : World} {K : PySem.W.Frag} {elts : List Expr} {kk : Nat} {tpos : Pos} (a e it : Addr) (hae : a ≠ it) (hae2 : a ≠ e) :
    Turn P w K (.Tuple elts kk tpos) (IteT K a) [e, it] e (fun i h => (∃ old, IsEnum h e it ((i : Nat) : Int) old) ∧ h.IsTupleIter it a i ∧ e ≠ it) where
  mem := by simp
  obj := fun i h st b hb => by
    (obtain ⟨⟨old, he⟩, ⟨o, ho, hc, hd⟩, _⟩ := st)
    (have e' : b = e ∨ b = it := by simpa using hb)
    rcases e' with z | z
    · (rw [z]; exact ⟨_, he, fun v q => nomatch q⟩)
    · (rw [z]; exact ⟨o, ho, fun v q => by rw [hd] at q; cases q⟩)
  keep := fun i h h' st k => let ⟨⟨old, he⟩, hi, hne⟩ := st; ⟨⟨old, k e
        (by simp) _ he⟩, hi.at fun o q => k it (by simp) o q, hne⟩
  item := by
    (intro X hP hw hK hc i pins s σ H E I hf st hg)
    subst hP hw hK
    (obtain ⟨⟨old, he⟩, hit, hne⟩ := st)
    obtain ⟨xs, x, hq, hx⟩ := hg
    (obtain ⟨its, rv, p, hz⟩ := I.tuple hq)
    (obtain ⟨u, hu, ru⟩ := rv.get hx)
    (have hel : e < s.heap.objs.size := Heap.lt_size he)
    (have hil : it < s.heap.objs.size := by obtain ⟨_, q, _⟩ := hit; exact Heap.lt_size q)
    have hil2 : i < its.toArray.size := by
      have := (List.getElem?_eq_some_iff.mp hu).1
      simpa using this
    refine wpAny_pyNext_enum_itemD (Draws.tuple (A := X.A.in1) (prog := X.prog) (w := X.w) (I.ok.hd hc) it a hae its.toArray) he ⟨hit, p⟩ hil2 hne (fun z => ?_) fun x' h' tk hx' ho hst' hT hsz hk => ?_
    · (rcases List.mem_cons.mp z with z | z)
      · exact hne z
      · exact hae2 (List.mem_singleton.mp z).symm
    have ex : x' = u := by
      have h1 : its[i]? = some x' := by simpa using hx'
      rw [hu] at h1
      cases h1
      rfl
    subst ex
    obtain ⟨hit', _⟩ := hst'
    refine ⟨_, rfl, wpAny_letOwnedTupleGo_enum (s := { s with heap := h', toks := tk + 1 }) ho fun h'' he' sb => ?_⟩
    have hT2 : h''.get? s.heap.objs.size = some { cls := .type "tuple", data := .seq #[.int i tk, x'] } := (sb.2 _ (Nat.ne_of_gt hel)).trans hT
    have new
          : ObjOk X.prog X.w (upd H s.heap.objs.size (.tup [.int (i : Nat), x])) h'' s.heap.objs.size (.tup [.int (i : Nat), x]) :=
      ⟨by show 2 ≤ sizeLine; decide, [.int i tk, x'], .cons ⟨_, rfl⟩ (.cons ru .nil), ⟨_, hT2, rfl, _, rfl⟩⟩
    have I1 : Inv X pins σ (upd H s.heap.objs.size (.tup [.int (i : Nat), x])) { s with heap := h'', toks := tk + 1 } :=
      I.turnedNew (t' := tk + 1) (ch := [e, it]) (fun b ob hb q => (sb.2 b (fun z => hb (by simp [z]))).trans (hk b ob (fun z => hb (by simp [z])) (fun z => hb (by simp [z])) q)) hf (Nat.le_refl _) new
    refine ⟨.ref s.heap.objs.size, _, I1, rfl, ⟨_, x, rfl, I.hok.fresh (Nat.le_refl _), rfl, fun ys hy => by rw [I.tuple_inj hy hq]; exact hx⟩, ⟨⟨x', ?_⟩, hit'.at fun o q => (sb.2 it (Ne.symm hne)).trans q, hne⟩, fun b hb => ?_⟩
    · (have e1 : ((i + 1 : Nat) : Int) = (i : Int) + 1 := by omega)
      rw [e1]; exact he'
    · have hb'
          : b < s.heap.objs.size := by
        (have e' : b = e ∨ b = it := by simpa using hb)
        rcases e' with z | z
        · rw [z]; exact hel
        · rw [z]; exact hil
      (rw [upd_ne (Nat.ne_of_lt hb')])
      exact (hf b hb).1
  done := by
    (intro X hP hw hK hc i pins s σ H E I hf st hg)
    subst hP hw hK
    (obtain ⟨⟨old, he⟩, hit, hne⟩ := st)
    obtain ⟨xs, hq, hx⟩ := hg
    (obtain ⟨its, rv, p, hz⟩ := I.tuple hq)
    (obtain ⟨f0, f1, f2, f3, f4, f5⟩ := hf it (by simp))
    have hl := rv.length
    have D0 : Draws X.prog X.w X.A.in1 it [it, a] 0 (fun _ _ => False) (fun _ h => h.IsTupleIter it a i ∧ h.IsTuple a its.toArray) := by
      refine ⟨fun _ _ st => let ⟨o, ho, _⟩ := st.1; ⟨o, ho⟩, fun _ _ _ st hk => ⟨st.1.at fun o e => hk it (by simp) o e, st.2.at fun o e => hk a (by simp) o e⟩, fun _ _ _ _ hi => absurd hi (Nat.not_lt_zero _), fun s Q E st hE => ?_⟩
      exact wpAny_nextOf_tuple_end (I.ok.hd hc) st.1 st.2 (by simp; omega) hE
    exact wpAny_pyNext_enum_endD D0 he ⟨hit, p⟩ fun h' eb => ⟨rfl, I.turned (t' := s.toks) (fun b o hb q => eb b o hb q) f0 f1 f3 f4 f5⟩
  self := fun A i s Q E st hq => let ⟨⟨_, he1⟩, _⟩ := st; wpAny_pyIter_enum he1 hq
def iEnumT (K : PySem.W.Frag) (ta : TA) : TI := fun σ H R => ta σ H fun vs H1 => ∃ a xs, vs = [.ref a] ∧ SqT K H1 a xs ∧ R (IteT K a) H1
theorem pi_enumT {X : Cx} {e : Expr} {ta : TA} {p pos tpos : Pos} {elts : List Expr} {kk : Nat} (hg : Gl X "enumerate") (hm : X.mg "enumerate" = none) (ha : PA X [e] ta) (hs : starEach [e] X.env = [(false, eval e X.env)] := by rfl) :
    PI X (.Tuple elts kk tpos) (.Call (.Name "enumerate" p) [e] [] pos) (iEnumT X.K ta) := by
  (refine ⟨fun pins s σ H R I h => ?_⟩)
  (refine Call_ (ld_blt I hg hm boot_enumerate (PyProof.Rows.callWith_type1 (thn (ha.run pos pins s σ H _ I h) fun us s1 ⟨vs, H1, I1, r1, q1⟩ => ?_) hs rfl)))
  (obtain ⟨a, xs, ex, hq, q⟩ := q1)
  subst ex
  cases r1 with
  | cons r rr =>
    cases rr
    cases r
    obtain ⟨its, rv, p', hz⟩ := I1.tuple hq
    obtain ⟨o1, ho1, _⟩ := id p'
    have hla : a < s1.heap.objs.size := Heap.lt_size ho1
    refine call_enumerate_tup p' fun h' he hit hsz hk => wpAny_pyIter_enum he ?_
    (have I2 : Inv X pins σ H1 { s1 with heap := h' } := I1.kept (t' := s1.toks) hk)
    refine ⟨s1.heap.objs.size + 1, [s1.heap.objs.size + 1, s1.heap.objs.size], _, _, H1, rfl, I2, turn_enumT a (s1.heap.objs.size + 1) s1.heap.objs.size (Nat.ne_of_lt hla) (Nat.ne_of_lt (Nat.lt_succ_of_lt hla)), ⟨⟨.none, he⟩, hit, Nat.succ_ne_self _⟩, fun b hb => ?_, q⟩
    (have e' : b = s1.heap.objs.size + 1 ∨ b = s1.heap.objs.size := by simpa using hb)
    have hle
          : s1.heap.objs.size ≤ b := by
      rcases e' with z | z
      · (rw [z]; exact Nat.le_add_right _ _)
      · rw [z]; exact Nat.le_refl _
    (exact I1.fpOk hle (I1.hok.fresh hle))
def iEnT (fr : S → M (List D × S)) : S → M (List D × S) := fun s => bd (fr s) fun p => match p.1 with
  | [.tup ds] => ok (enumD 0 ds, p.2)
  | _ => none
section
variable {X : Cx} {K : PySem.W.Frag} {cl : Cl} {wx : WX} {pos p : Pos} {e : Expr} {fr : S → M (List D × S)}
theorem itok_enT {O : List Addr} {H0 : Hp} {a : Addr} {xs : List V} {ds : List D} (s : SqT K (hide O H0) a xs) (r : RpA K cl (hide O H0) xs ds) : ItOK K cl O H0 (enumD 0 ds) (IteT K a) where
  go := fun i O' H sm hi => by
    have e := r.len
    rw [enumD_len] at hi
    exact ⟨xs, xs[i], same_sqT hide_le (same_sqT sm s), List.getElem?_eq_getElem (by omega)⟩
  stop := fun i O' H sm hi => ⟨xs, same_sqT hide_le (same_sqT sm s), by rw [r.len]; rw [enumD_len] at hi; exact hi⟩
  yld := fun i O' H x H' sm al y => by
    obtain ⟨T, x1, rfl, nT, rfl, y⟩ := y
    refine ⟨same_upd nT, fun d hd => ?_⟩
    rw [enumD_get] at hd
    cases q : ds[i]? with
    | none => rw [q] at hd; cases hd
    | some d1 =>
      rw [q] at hd
      cases hd
      obtain ⟨v, h1, h2⟩ := r.get i q
      have h3 := y xs (same_sqT hide_le (same_sqT sm s))
      rw [h1] at h3
      cases h3
      refine .tup (.inl (.inl (hide_new al nT))) (.cons ?_ (.cons ((h2.mono sm).mono (hide_upd nT)) .nil))
      have e : (0 + i : Nat) = i := by omega
      rw [e]
      exact .int _
theorem w_enumT {elts : List Expr} {kk : Nat} {tpos : Pos} (hm : X.mg "enumerate" = none) (ha : PA X [e] (TAof X.K cl wx fr)) (hg : Gl X "enumerate" := by rfl) (hs : starEach [e] X.env = [(false, eval e X.env)] := by rfl) : PI X (.Tuple elts kk tpos) (.Call (.Name "enumerate" p) [e] [] pos) (TIof X.K cl wx (iEnT fr)) := by
  refine iP (pi_enumT hg hm ha hs) ?_
  rintro σ H Q ⟨w, L, sd, W, h⟩
  refine ⟨w, L, sd, W, PostA.bd botI h fun rs s1 h vs H1 st1 W1 rr => ?_⟩
  dsimp only at h
  split at h
  · obtain ⟨v, rfl, rv⟩ := rr.one
    cases rv with
    | tup s r => exact ⟨_, _, rfl, same_sqT hide_le s, h _ H1 st1 W1 (itok_enT s r)⟩
  · exact h.elim
end
end Dt
namespace Dt
open L2 PySem PySem.Spec PyProof.Rows
/-! ### reckoning with mirrors -/
theorem v_add (i j : Int) : addI (.int i) (.int j) = ok (.int (i + j)) := rfl
theorem v_sub (i j : Int) : subI (.int i) (.int j) = ok (.int (i - j)) := rfl
theorem v_mulL {i j : Int} (h1 : -(2 ^ 64) < i) (h2 : i < 2 ^ 64) : mulI (.int i) (.int j) = ok (.int (i * j)) := if_pos (.inl ⟨h1, h2⟩)
theorem v_mulR {i j : Int} (h1 : -(2 ^ 64) < j) (h2 : j < 2 ^ 64) : mulI (.int i) (.int j) = ok (.int (i * j)) := if_pos (.inr (.inl ⟨h1, h2⟩))
theorem v_mod {i j : Int} (h : 0 < j) : modI (.int i) (.int j) = ok (.int (i % j)) := if_pos h
theorem v_div {i j : Int} (h : divOk j) : divI (.int i) (.int j) = ok (.int (i / j)) := if_pos h
theorem v_pow {i j : Int} (h : powOk i j) : powI (.int i) (.int j) = ok (.int (i ^ j.toNat)) := if_pos h
theorem v_lt (i j : Int) : ltI (.int i) (.int j) = ok (.bl (decide (i < j))) := rfl
theorem v_le (i j : Int) : leI (.int i) (.int j) = ok (.bl (decide (i ≤ j))) := rfl
theorem v_gt (i j : Int) : gtI (.int i) (.int j) = ok (.bl (decide (j < i))) := rfl
theorem v_ge (i j : Int) : geI (.int i) (.int j) = ok (.bl (decide (j ≤ i))) := rfl
theorem v_is0 : isNon .non .non = ok (.bl true) := rfl
theorem v_is1 (i : Int) : isNon (.int i) .non = ok (.bl false) := rfl
theorem v_eqI (i j : Int) : eqD (.int i) (.int j) = ok (.bl (decide (i = j))) := by
  unfold eqD
  simp only [D.plain, D.py, SeqAt.shaped, Bool.and_self, if_true]
  congr
theorem v_neI (i j : Int) : neD (.int i) (.int j) = ok (.bl (!decide (i = j))) := by
  unfold neD
  simp only [D.plain, D.py, SeqAt.shaped, Bool.and_self, if_true]
  congr
theorem v_isII (i : Int) : isD "int" (.int i) = ok (.bl true) := rfl
theorem v_isBI (i : Int) : isD "bool" (.int i) = ok (.bl false) := by
  have h : kitB "int" "bool" = some false := by decide +kernel
  unfold isD tyD
  simp only [h]
/-- (no rfl theorem: simp shall not fold it into a check by unfolding) -/
theorem bd_ok' {α β : Type} (a : α) (f : α → M β) : bd (ok a) f = f a := by
  have h : bd (ok a) f = f a := rfl
  exact h
theorem bd_some {α β : Type} (a : α) (f : α → M β) : bd (some (.ok a)) f = f a := rfl
/-- lists of ints -/
abbrev iD (ns : List Int) : List D := ns.map D.int
theorem plains_i : ∀ ns : List Int, D.plains (iD ns) = true
  | [] => rfl
  | n :: ns => by
    show (D.plain (.int n) && D.plains (iD ns)) = true
    rw [plains_i ns]
    rfl
theorem pys_i : ∀ ns : List Int, D.pys (iD ns) = ns.map PyData.int
  | [] => rfl
  | n :: ns => by
    show D.py (.int n) :: D.pys (iD ns) = _
    rw [pys_i ns]
    rfl
theorem v_neS (x y : Str) : neS (.str x) (.str y) = ok (.bl (!decide (x = y))) := rfl
theorem v_eqS (x y : Str) : eqS (.str x) (.str y) = ok (.bl (decide (x = y))) := rfl
theorem lay_i : ∀ ns : List Int, PyData.canLayAll0 (ns.map PyData.int) = true
  | [] => rfl
  | n :: ns => by
    show (PyData.canLay0 (.int n) && PyData.canLayAll0 (ns.map PyData.int)) = true
    rw [lay_i ns]
    rfl
theorem depth_i : ∀ ns : List Int, PyData.depthAll (ns.map PyData.int) = 0
  | [] => rfl
  | n :: ns => by
    show max (PyData.depth (.int n)) (PyData.depthAll (ns.map PyData.int)) = 0
    rw [depth_i ns]
    rfl
theorem shaped_i (ns : List Int) : SeqAt.shaped (.list (ns.map PyData.int)) = true := by
  unfold SeqAt.shaped
  rw [PyData.canLay0, lay_i, PyData.depth, depth_i]
  rfl
theorem any_i (k : Int) : ∀ ns : List Int, ((ns.map PyData.int).any fun z => PyData.eqv z (.int k)) = decide (k ∈ ns)
  | [] => rfl
  | n :: ns => by
    rw [List.map_cons, List.any_cons, any_i k ns]
    show ((n == k) || decide (k ∈ ns)) = _
    by_cases h : n = k
    · subst h
      simp
    · have h2 : ¬ k = n := fun e => h e.symm
      have h3 : (n == k) = false := beq_false_of_ne h
      rw [h3]
      simp [h2]
/-- k in a list of ints -/
theorem v_inL (k : Int) (ns : List Int) : inD (.int k) (.lst (iD ns)) = ok (.bl (decide (k ∈ ns))) := by
  unfold inD
  dsimp only
  rw [plains_i, pys_i, shaped_i, D.py, any_i]
  rfl
theorem v_ninL (k : Int) (ns : List Int) : ninD (.int k) (.lst (iD ns)) = ok (.bl (!decide (k ∈ ns))) := by
  unfold ninD
  dsimp only
  rw [plains_i, pys_i, shaped_i, D.py, any_i]
  rfl
theorem v_eqT2 (a b c d : Int) : eqD (.tup [.int a, .int b]) (.tup [.int c, .int d]) = ok (.bl (decide (a = c ∧ b = d))) := by
  unfold eqD
  simp only [D.plain, D.plains, D.py, D.pys, SeqAt.shaped, PyData.canLay0, PyData.canLayAll0, PyData.depth, PyData.depthAll, Bool.and_self, if_true, PyData.eqv, PyData.eqvAll, Bool.and_true]
  show ok (D.bl ((a == c) && (b == d))) = _
  congr 2
  rw [Bool.eq_iff_iff]
  simp
/-- pairs of ints -/
abbrev pD (ps : List (Int × Int)) : List D := ps.map fun p => D.tup [.int p.1, .int p.2]
abbrev pY (ps : List (Int × Int)) : List PyData := ps.map fun p => PyData.tuple [.int p.1, .int p.2]
theorem plains_p : ∀ ps : List (Int × Int), D.plains (pD ps) = true
  | [] => rfl
  | p :: ps => by
    show (D.plain (.tup [.int p.1, .int p.2]) && D.plains (pD ps)) = true
    rw [plains_p ps]
    rfl
theorem pys_p : ∀ ps : List (Int × Int), D.pys (pD ps) = pY ps
  | [] => rfl
  | p :: ps => by
    show D.py (.tup [.int p.1, .int p.2]) :: D.pys (pD ps) = _
    rw [pys_p ps]
    rfl
theorem lay_p : ∀ ps : List (Int × Int), PyData.canLayAll0 (pY ps) = true
  | [] => rfl
  | p :: ps => by
    show (PyData.canLay0 (.tuple [.int p.1, .int p.2]) && PyData.canLayAll0 (pY ps)) = true
    rw [lay_p ps]
    rfl
theorem depth_p : ∀ ps : List (Int × Int), PyData.depthAll (pY ps) ≤ 1
  | [] => by decide
  | p :: ps => by
    show max (PyData.depth (.tuple [.int p.1, .int p.2])) (PyData.depthAll (pY ps)) ≤ 1
    exact Nat.max_le.mpr ⟨Nat.le_refl 1, depth_p ps⟩
theorem shaped_p (ps : List (Int × Int)) : SeqAt.shaped (.list (pY ps)) = true := by
  unfold SeqAt.shaped
  rw [PyData.canLay0, lay_p, PyData.depth]
  have := depth_p ps
  exact Bool.and_eq_true_iff.mpr ⟨rfl, decide_eq_true (by omega)⟩
theorem any_p (k : Int × Int) : ∀ ps : List (Int × Int), ((pY ps).any fun z => PyData.eqv z (.tuple [.int k.1, .int k.2])) = decide (k ∈ ps)
  | [] => rfl
  | p :: ps => by
    show (PyData.eqv (.tuple [.int p.1, .int p.2]) (.tuple [.int k.1, .int k.2]) || (pY ps).any fun z => PyData.eqv z (.tuple [.int k.1, .int k.2])) = _
    rw [any_p k ps]
    show (((p.1 == k.1) && ((p.2 == k.2) && true)) || decide (k ∈ ps)) = _
    rw [Bool.and_true, Bool.eq_iff_iff]
    obtain ⟨a, b⟩ := p
    obtain ⟨c, d⟩ := k
    simp
    constructor
    · rintro (⟨rfl, rfl⟩ | h)
      · exact .inl ⟨rfl, rfl⟩
      · exact .inr h
    · rintro (⟨rfl, rfl⟩ | h)
      · exact .inl ⟨rfl, rfl⟩
      · exact .inr h
theorem v_inP (k : Int × Int) (ps : List (Int × Int)) : inD (.tup [.int k.1, .int k.2]) (.lst (pD ps)) = ok (.bl (decide (k ∈ ps))) := by
  unfold inD
  dsimp only
  rw [plains_p, pys_p, shaped_p]
  show (if true then ok (D.bl ((pY ps).any fun z => PyData.eqv z (.tuple [.int k.1, .int k.2]))) else none) = _
  rw [any_p]
  rfl
theorem eqvAll_p : ∀ ps qs : List (Int × Int), PyData.eqvAll (pY ps) (pY qs) = decide (ps = qs)
  | [], [] => rfl
  | [], _ :: _ => rfl
  | _ :: _, [] => rfl
  | p :: ps, q :: qs => by
    show (((p.1 == q.1) && ((p.2 == q.2) && true)) && PyData.eqvAll (pY ps) (pY qs)) = _
    rw [eqvAll_p ps qs, Bool.and_true, Bool.eq_iff_iff]
    obtain ⟨a, b⟩ := p
    obtain ⟨c, d⟩ := q
    simp [and_assoc]
theorem v_eqP (ps qs : List (Int × Int)) : eqD (.lst (pD ps)) (.lst (pD qs)) = ok (.bl (decide (ps = qs))) := by
  unfold eqD
  rw [D.plain, D.plain, plains_p, plains_p, D.py, D.py, pys_p, pys_p, shaped_p, shaped_p, PyData.eqv, eqvAll_p]
  rfl
theorem eqvAll_i : ∀ ps qs : List Int, PyData.eqvAll (ps.map PyData.int) (qs.map PyData.int) = decide (ps = qs)
  | [], [] => rfl
  | [], _ :: _ => rfl
  | _ :: _, [] => rfl
  | p :: ps, q :: qs => by
    show ((p == q) && PyData.eqvAll (ps.map PyData.int) (qs.map PyData.int)) = _
    rw [eqvAll_i ps qs, Bool.eq_iff_iff]
    simp
theorem v_eqL (ps qs : List Int) : eqD (.lst (iD ps)) (.lst (iD qs)) = ok (.bl (decide (ps = qs))) := by
  unfold eqD
  rw [D.plain, D.plain, plains_i, plains_i, D.py, D.py, pys_i, pys_i, shaped_i, shaped_i, PyData.eqv, eqvAll_i]
  rfl
theorem v_neL (ps qs : List Int) : neD (.lst (iD ps)) (.lst (iD qs)) = ok (.bl (!decide (ps = qs))) := by
  unfold neD
  rw [D.plain, D.plain, plains_i, plains_i, D.py, D.py, pys_i, pys_i, shaped_i, shaped_i, PyData.eqv, eqvAll_i]
  rfl
/-! ### texts of pairs of ints -/
theorem show_p : ∀ ps : List (Int × Int), (∀ p ∈ ps, p.1.natAbs.log2 < 1920 ∧ p.2.natAbs.log2 < 1920) → PyData.showableAll (pY ps) = true ∧ PyData.leavesShortAll 1921 (pY ps) = true
  | [], _ => ⟨rfl, rfl⟩
  | p :: ps, h => by
    obtain ⟨h1, h2⟩ := show_p ps fun q hq => h q (List.mem_cons_of_mem _ hq)
    obtain ⟨h3, h4⟩ := h p (List.mem_cons_self ..)
    have s1 : decide ((PyData.shown (.int p.1)).length ≤ 1921) = true := decide_eq_true (by rw [PyData.shown]; exact PyProof.Rows.int_text_len_1921 h3)
    have s2 : decide ((PyData.shown (.int p.2)).length ≤ 1921) = true := decide_eq_true (by rw [PyData.shown]; exact PyProof.Rows.int_text_len_1921 h4)
    constructor
    · show (((decide (p.1.natAbs.log2 < 1920)) && ((decide (p.2.natAbs.log2 < 1920)) && true)) && PyData.showableAll (pY ps)) = true
      rw [decide_eq_true h3, decide_eq_true h4, h1]
      rfl
    · show ((decide ((PyData.shown (.int p.1)).length ≤ 1921) && (decide ((PyData.shown (.int p.2)).length ≤ 1921) && true)) && PyData.leavesShortAll 1921 (pY ps)) = true
      rw [s1, s2, h2]
      rfl
theorem weight_p : ∀ ps : List (Int × Int), (∀ p ∈ ps, p.1.natAbs.log2 < 1920 ∧ p.2.natAbs.log2 < 1920) → PyData.weightAll (pY ps) ≤ 4000 * ps.length
  | [], _ => Nat.le_refl _
  | p :: ps, h => by
    have h2 := weight_p ps fun q hq => h q (List.mem_cons_of_mem _ hq)
    obtain ⟨h3, h4⟩ := h p (List.mem_cons_self ..)
    have w1 : PyData.weight (.int p.1) ≤ 1920 := by
      rw [PyData.weight]
      split <;> omega
    have w2 : PyData.weight (.int p.2) ≤ 1920 := by
      rw [PyData.weight]
      split <;> omega
    show (PyData.weight (.int p.1) + 1 + (PyData.weight (.int p.2) + 1 + 0)) + 1 + PyData.weightAll (pY ps) ≤ _
    rw [List.length_cons]
    omega
theorem v_reprP (ps : List (Int × Int)) (h : ∀ p ∈ ps, p.1.natAbs.log2 < 1920 ∧ p.2.natAbs.log2 < 1920) (hl : ps.length ≤ 2) : reprN [.lst (pD ps)] = ok (.str (D.py (.lst (pD ps))).shown) := by
  obtain ⟨h1, h2⟩ := show_p ps h
  have h3 := weight_p ps h
  have h4 := depth_p ps
  have h5 := PyData.shown_le 1921 (by decide) (.list (pY ps)) h2
  rw [PyData.weight] at h5
  have h6 : (1921 + 2) * PyData.weightAll (pY ps) ≤ 1923 * 8000 := Nat.mul_le_mul (by omega) (by omega)
  unfold reprN
  dsimp only
  rw [if_pos]
  rw [D.py, pys_p]
  refine ⟨plains_p ps, h1, ?_, ?_⟩
  · rw [PyData.depth]
    omega
  · show _ ≤ 2 ^ 24
    omega
/-! ### loops -/
theorem while_end {c : S → M (Bool × S)} {F : S → M Out} {s s1 : S} (h : c s = ok (false, s1)) : sWhile c F s = ok (.nx s1) := by
  refine sWhile_of (n := 1) ?_
  rw [whileN, h, bd_ok']
  rfl
theorem while_step {c : S → M (Bool × S)} {F : S → M Out} {s s1 s2 : S} {o : Out} (h : c s = ok (true, s1)) (h2 : F s1 = ok (.nx s2)) (h3 : sWhile c F s2 = ok o) : sWhile c F s = ok o := by
  rcases of_sWhile h3 with e | ⟨n, o2, e, hn⟩
  · cases e
  · cases e
    refine sWhile_of (n := n + 1) ?_
    rw [whileN, h, bd_ok']
    show bd (F s1) _ = _
    rw [h2, bd_ok']
    exact hn
theorem while_go {c : S → M (Bool × S)} {F : S → M Out} {s s2 : S} {o : Out} (h : c s = ok (true, s)) (h2 : F s = ok (.nx s2)) (h3 : sWhile c F s2 = ok o) : sWhile c F s = ok o := while_step h h2 h3
theorem while_stop {c : S → M (Bool × S)} {F : S → M Out} {s : S} (h : c s = ok (false, s)) : sWhile c F s = ok (.nx s) := while_end h
theorem forL_nil {T : D → S → M S} {F : S → M Out} {s : S} : forL T F [] s = ok (.nx s) := rfl
theorem forL_cons {T : D → S → M S} {F : S → M Out} {d : D} {ds : List D} {s s1 s2 : S} (h1 : T d s = ok s1) (h2 : F s1 = ok (.nx s2)) : forL T F (d :: ds) s = forL T F ds s2 := by
  rw [forL, h1, bd_ok', h2, bd_ok']
/-- a loop by an invariant -/
theorem forL_inv {T : D → S → M S} {F : S → M Out} (P : Nat → S → Prop) : ∀ (ds : List D) (k : Nat) (s : S), P k s → (∀ i d s, ds[i]? = some d → P (k + i) s → ∃ s1 s2, T d s = ok s1 ∧ F s1 = ok (.nx s2) ∧ P (k + i + 1) s2) → ∃ s', forL T F ds s = ok (.nx s') ∧ P (k + ds.length) s'
  | [], k, s, h, _ => ⟨s, rfl, h⟩
  | d :: ds, k, s, h, step => by
    obtain ⟨s1, s2, h1, h2, h3⟩ := step 0 d s rfl h
    obtain ⟨s', e, p⟩ := forL_inv P ds (k + 1) s2 h3 fun i d' s' e q => by
      have := step (i + 1) d' s' (by simpa using e) (by rw [show k + (i + 1) = k + 1 + i by omega]; exact q)
      rw [show k + (i + 1) + 1 = k + 1 + i + 1 by omega] at this
      exact this
    refine ⟨s', by rw [forL_cons h1 h2]; exact e, ?_⟩
    rw [List.length_cons, show k + (ds.length + 1) = k + 1 + ds.length by omega]
    exact p
/-- a comprehension whose turns find the same state -/
theorem compL_map {vs : List Nat} {T : D → S → M S} {ft : S → M (Bool × S)} {fe : S → M (D × S)} (s0 : S) (g : D → Option D) : ∀ ds : List D,
    (∀ d ∈ ds, (g d = none ∧ ∃ s1 s2, T d s0 = ok s1 ∧ ft s1 = ok (false, s2) ∧ wipeS s2 vs = s0) ∨ ∃ y s1 s2 s3, g d = some y ∧ T d s0 = ok s1 ∧ ft s1 = ok (true, s2) ∧ fe s2 = ok (y, s3) ∧ wipeS s3 vs = s0) → compL vs T ft fe ds s0 = ok (ds.filterMap g, s0)
  | [], _ => rfl
  | d :: ds, h => by
    have ih := compL_map s0 g ds fun d' hd => h d' (List.mem_cons_of_mem _ hd)
    rcases h d (List.mem_cons_self ..) with ⟨e, s1, s2, h1, h2, h3⟩ | ⟨y, s1, s2, s3, e, h1, h2, h3, h4⟩
    · rw [compL, h1, bd_ok', h2, bd_ok', List.filterMap_cons, e]
      show compL vs T ft fe ds (wipeS s2 vs) = _
      rw [h3]
      exact ih
    · rw [compL, h1, bd_ok', h2, bd_ok', List.filterMap_cons, e]
      show bd (fe s2) _ = _
      rw [h3, bd_ok']
      show bd (compL vs T ft fe ds (wipeS s3 vs)) _ = _
      rw [h4, ih]
      rfl
end Dt
namespace Dt
open L2 PySem PySem.Spec PyProof.Rows
/-! ### texts of nested lists of ints, bools, None -/
mutual
def D.rok : D → Bool
  | .non => true
  | .bl _ => true
  | .int i => decide
        (i.natAbs.log2 < 1920)
  | .lst xs => D.roks xs
  | .tup xs => D.roks xs
  | _ => false
def D.roks : List D → Bool
  | [] => true
  | x :: xs => D.rok x && D.roks xs
end
mutual
def D.blk : D → Nat
  | .lst xs => D.blks xs
  | .tup xs => D.blks xs
  | _ => 0
def D.blks : List D → Nat
  | [] => 0
  | x :: xs => D.blk x + 1 + D.blks xs
end
mutual
def D.dep : D → Nat
  | .lst xs => D.deps xs + 1
  | .tup xs => D.deps xs + 1
  | _ => 0
def D.deps : List D → Nat
  | [] => 0
  | x :: xs => max (D.dep x) (D.deps xs)
end
mutual
theorem rok_all : ∀ d : D, d.rok = true → d.plain = true ∧ d.py.showable = true ∧ PyData.leavesShort 1921 d.py = true ∧ d.py.bulk = d.blk ∧ d.py.depth = d.dep
  | .non, _ => ⟨rfl, rfl, rfl, rfl, rfl⟩
  | .bl _, _ => ⟨rfl, rfl, rfl, rfl, rfl⟩
  | .int i, h => by
    have h3 : i.natAbs.log2 < 1920 := of_decide_eq_true h
    refine ⟨rfl, ?_, ?_, rfl, rfl⟩
    · show decide (i.natAbs.log2 < 1920) = true
      exact h
    · show decide ((PyData.shown (.int i)).length ≤ 1921) = true
      exact decide_eq_true (by rw [PyData.shown]; exact PyProof.Rows.int_text_len_1921 h3)
  | .str _, h => by cases h
  | .lst xs, h => by
    obtain ⟨h1, h2, h3, h4, h5⟩ := roks_all xs h
    rw [D.plain, D.py]
    refine ⟨h1, h2, h3, ?_, ?_⟩
    · rw [PyData.bulk, h4, D.blk]
    · rw [PyData.depth, h5, D.dep]
  | .tup xs, h => by
    obtain ⟨h1, h2, h3, h4, h5⟩ := roks_all xs h
    rw [D.plain, D.py]
    refine ⟨h1, h2, h3, ?_, ?_⟩
    · rw [PyData.bulk, h4, D.blk]
    · rw [PyData.depth, h5, D.dep]
  | .obj _ _, h => by cases h
  | .dic _ _, h => by cases h
theorem roks_all : ∀ ds : List D, D.roks ds = true → D.plains ds = true ∧ PyData.showableAll (D.pys ds) = true ∧ PyData.leavesShortAll 1921 (D.pys ds) = true ∧ PyData.bulkAll (D.pys ds) = D.blks ds ∧ PyData.depthAll (D.pys ds) = D.deps ds
  | [], _ => ⟨rfl, rfl, rfl, rfl, rfl⟩
  | d :: ds, h => by
    rw [D.roks] at h
    obtain ⟨ha, hb⟩ := Bool.and_eq_true_iff.mp h
    obtain ⟨a1, a2, a3, a4, a5⟩ := rok_all d ha
    obtain ⟨b1, b2, b3, b4, b5⟩ := roks_all ds hb
    rw [D.plains, D.pys]
    refine ⟨by rw [a1, b1]; rfl, ?_, ?_, ?_, ?_⟩
    · rw [PyData.showableAll, a2, b2]; rfl
    · rw [PyData.leavesShortAll, a3, b3]; rfl
    · rw [PyData.bulkAll, a4, b4, D.blks]
    · rw [PyData.depthAll, a5, b5, D.deps]
end
theorem repr_lst {xs : List D} (h : D.roks xs = true) (hb : D.blks xs ≤ 8000) (hd : D.deps xs ≤ 59) : reprN [.lst xs] = ok (.str (D.py (.lst xs)).shown) := by
  obtain ⟨h1, h2, h3, h4, h5⟩ := roks_all xs h
  have h6 := PyData.shown_le_bulk 1921 (by decide) (.list (D.pys xs)) h3
  rw [PyData.bulk, h4] at h6
  unfold reprN
  dsimp only
  rw [if_pos]
  rw [D.py]
  refine ⟨h1, h2, ?_, ?_⟩
  · rw [PyData.depth, h5]
    omega
  · have : (1921 + 2) * D.blks xs ≤ 1923 * 8000 := Nat.mul_le_mul (by omega) hb
    show _ ≤ 2 ^ 24
    omega
/-- .. of two lists that are one -/
theorem roks_append : ∀ xs ys : List D, D.roks (xs ++ ys) = (D.roks xs && D.roks ys)
  | [], _ => rfl
  | x :: xs, ys => by
    rw [List.cons_append, D.roks, D.roks, roks_append xs ys, Bool.and_assoc]
theorem roks_i : ∀ ns : List Int, (∀ n ∈ ns, n.natAbs.log2 < 1920) → D.roks (iD ns) = true
  | [], _ => rfl
  | n :: ns, h => by
    show (decide (n.natAbs.log2 < 1920) && D.roks (iD ns)) = true
    rw [decide_eq_true (h n (List.mem_cons_self ..)), roks_i ns fun m hm => h m (List.mem_cons_of_mem _ hm)]
    rfl
theorem blks_i : ∀ ns : List Int, D.blks (iD ns) = ns.length
  | [] => rfl
  | n :: ns => by
    show 0 + 1 + D.blks (iD ns) = ns.length + 1
    rw [blks_i ns]
    omega
theorem deps_i : ∀ ns : List Int, D.deps (iD ns) = 0
  | [] => rfl
  | n :: ns => by
    show max 0 (D.deps (iD ns)) = 0
    rw [deps_i ns]
    rfl
theorem v_eqSS (x : Str) : eqS (.str x) (.str x) = ok (.bl true) := by
  rw [v_eqS, decide_eq_true rfl]
theorem v_neSS (x : Str) : neS (.str x) (.str x) = ok (.bl false) := by
  rw [v_neS, decide_eq_true rfl]
  rfl
/-! ### comprehensions -/
theorem comp_allD (v : Nat) (fe : S → M (D × S)) (g : D → D) (s0 : S) (hs : ∀ x, (s0.set v x).set v .un = s0) : ∀ ds : List D, (∀ d ∈ ds, fe (s0.set v (.val d)) = ok (g d, s0.set v (.val d))) → compL [v] (gNm v) tTrue fe ds s0 = ok (ds.map g, s0)
  | [], _ => rfl
  | d :: ds, hf => by
    have ih := comp_allD v fe g s0 hs ds fun k hk => hf k (List.mem_cons_of_mem _ hk)
    have e := hf d (List.mem_cons_self ..)
    show bd (ok (s0.set v (.val d))) _ = _
    rw [bd_ok']
    show bd (fe (s0.set v (.val d))) _ = _
    rw [e, bd_ok']
    show bd (compL [v] (gNm v) tTrue fe ds ((s0.set v (.val d)).set v .un)) _ = _
    rw [hs, ih]
    rfl
/-- a comprehension over things told by a list -/
theorem comp_allF {α : Type} (v : Nat) (fe : S → M (D × S)) (x g : α → D) (s0 : S) (hs : ∀ x, (s0.set v x).set v .un = s0) : ∀ as : List α, (∀ a ∈ as, fe (s0.set v (.val (x a))) = ok (g a, s0.set v (.val (x a)))) → compL [v] (gNm v) tTrue fe (as.map x) s0 = ok (as.map g, s0)
  | [], _ => rfl
  | a :: as, hf => by
    have ih := comp_allF v fe x g s0 hs as fun k hk => hf k (List.mem_cons_of_mem _ hk)
    have e := hf a (List.mem_cons_self ..)
    show bd (ok (s0.set v (.val (x a)))) _ = _
    rw [bd_ok']
    show bd (fe (s0.set v (.val (x a)))) _ = _
    rw [e, bd_ok']
    show bd (compL [v] (gNm v) tTrue fe (as.map x) ((s0.set v (.val (x a))).set v .un)) _ = _
    rw [hs, ih]
    rfl
end Dt
namespace Dt
open L2 PySem PySem.Spec PyProof.Rows
/-! ### instances: their fields -/
/-- the j-th field of an instance of the class c -/
def fldD (c : Str) (j : Nat) : D → M D := fun d => match d with
  | .obj c' ds => if c' = c then (match ds[j]? with | some d => ok d | none => none) else none
  | _ => none
def dFld (c : Str) (j : Nat) (f : S → M (D × S)) : S → M (D × S) := fun s => bd (f s) fun p => bd (fldD c j p.1) fun d => ok (d, p.2)
def dOwnFld (i : Nat) (c : Str) (j : Nat) : S → M (D × S) := fun s => match ownD s[i]? with
  | some d => bd (fldD c j d) fun r => ok (r, s)
  | none => none
def setF (ds : List D) (j : Nat) (d : D) : List D := if j < ds.length then ds.set j d else ds ++ [d]
def sFldPut (i : Nat) (c : Str) (j : Nat) (f : S → M (D × S)) : S → M Out := fun s => bd (f s) fun p => match ownD p.2[i]? with
  | some (.obj c' ds) => if c' = c ∧ j ≤ ds.length ∧ ds.length < 1000 then ok (.nx (putD p.2 i (.obj c (setF ds j p.1)))) else none
  | _ => none
/-- what is known of a class -/
structure ClsD (K : PySem.W.Frag) (cl : Cl) (c : Str) (C : Addr) (names : List Str) : Prop where
  at_ : cl c = some (C, names)
  cls : Cls K C
  no : ∀ f ∈ names, NoAttr K C f
  nd : names.Nodup
theorem lookup_at {α β : Type} [BEq α] [LawfulBEq α] : ∀ (fs : List (α × β)) (j : Nat) (f : α) (v : β), (fs.map (·.1)).Nodup → fs[j]? = some (f, v) → fs.lookup f = some v
  | [], j, f, v, _, e => by simp at e
  | (g, x) :: r, 0, f, v, _, e => by
    simp at e
    obtain ⟨rfl, rfl⟩ := e
    simp [List.lookup]
  | (g, x) :: r, j + 1, f, v, n, e => by
    rw [List.map_cons] at n
    obtain ⟨n1, n2⟩ := List.nodup_cons.mp n
    have e' : r[j]? = some (f, v) := by simpa using e
    have hm : f ∈ r.map (·.1) := List.mem_map.mpr ⟨_, List.mem_of_getElem? e', rfl⟩
    have hne : (f == g) = false := beq_eq_false_iff_ne.mpr fun z => n1 (by rw [← z]; exact hm)
    rw [List.lookup, hne]
    exact lookup_at r j f v n2 e'
theorem putF_at {f : Str} {v : V} : ∀ (fs : List (Str × V)) (j : Nat) (u : V), (fs.map (·.1)).Nodup → fs[j]? = some (f, u) → putF f v fs = fs.set j (f, v)
  | [], j, u, _, e => by simp at e
  | (g, x) :: r, 0, u, _, e => by
    simp at e
    obtain ⟨rfl, rfl⟩ := e
    simp [putF]
  | (g, x) :: r, j + 1, u, n, e => by
    rw [List.map_cons] at n
    obtain ⟨n1, n2⟩ := List.nodup_cons.mp n
    have e' : r[j]? = some (f, u) := by simpa using e
    have hm : f ∈ r.map (·.1) := List.mem_map.mpr ⟨_, List.mem_of_getElem? e', rfl⟩
    have hne : g ≠ f := fun z => n1 (by rw [z]; exact hm)
    rw [putF, if_neg hne, putF_at r j u n2 e', List.set_cons_succ]
theorem putF_end {f : Str} {v : V} : ∀ (fs : List (Str × V)), f ∉ fs.map (·.1) → putF f v fs = fs ++ [(f, v)]
  | [], _ => rfl
  | (g, x) :: r, h => by
    have hne : g ≠ f := fun z => h (by simp [z])
    rw [putF, if_neg hne, putF_end r (fun z => h (by simp at z ⊢; exact .inr z)), List.cons_append]
section
variable {K : PySem.W.Frag} {cl : Cl} {wx : WX} {H : Hp} {c : Str} {C : Addr} {names : List Str} {fvs : List (Str × V)} {ds : List D} {j : Nat} {f : Str} {d : D}
theorem fvs_len (n : fvs.map (·.1) = names.take ds.length) (r : RpA K cl H (fvs.map (·.2)) ds) : fvs.length = ds.length := by
  have := r.len
  simpa using this
theorem fvs_nd (hn : names.Nodup) (n : fvs.map (·.1) = names.take ds.length) : (fvs.map (·.1)).Nodup := by
  rw [n]
  exact (List.take_sublist _ _).nodup hn
theorem fvs_at (hn : names.Nodup) (n : fvs.map (·.1) = names.take ds.length) (r : RpA K cl H (fvs.map (·.2)) ds) (hj : names[j]? = some f) (hd : ds[j]? = some d) : ∃ v, fvs[j]? = some (f, v) ∧ fvs.lookup f = some v ∧ Rp K cl H v d := by
  have hlt : j < ds.length := (List.getElem?_eq_some_iff.mp hd).1
  obtain ⟨v, h1, h2⟩ := r.get j hd
  have h3 : (fvs.map (·.1))[j]? = some f := by
    rw [n, List.getElem?_take_of_lt hlt]
    exact hj
  rw [List.getElem?_map] at h1 h3
  cases q : fvs[j]? with
  | none => rw [q] at h1; cases h1
  | some p =>
    rw [q] at h1 h3
    simp at h1 h3
    obtain ⟨p1, p2⟩ := p
    dsimp only at h1 h3
    subst h1 h3
    exact ⟨_, rfl, lookup_at fvs j _ _ (fvs_nd hn n) q, h2⟩
/-- a field is written -/
theorem fvs_put {v : V} (hn : names.Nodup) (n : fvs.map (·.1) = names.take ds.length) (r : RpA K cl H (fvs.map (·.2)) ds) (hj : names[j]? = some f) (hl : j ≤ ds.length) (rv : Rp K cl H v d) :
    (putF f v fvs).map (·.1) = names.take (setF ds j d).length ∧ RpA K cl H ((putF f v fvs).map (·.2)) (setF ds j d) := by
  have len := fvs_len n r
  unfold setF
  by_cases hlt : j < ds.length
  · obtain ⟨u, h1, _, _⟩ := fvs_at hn n r hj (List.getElem?_eq_getElem hlt)
    rw [if_pos hlt, putF_at fvs j u (fvs_nd hn n) h1, List.map_set, List.map_set, List.length_set]
    refine ⟨?_, r.set j rv⟩
    rw [← n]
    have h3 : (fvs.map (·.1))[j]? = some f := by rw [List.getElem?_map, h1]; rfl
    have hlt' : j < (fvs.map (·.1)).length := (List.getElem?_eq_some_iff.mp h3).1
    have := (List.getElem?_eq_some_iff.mp h3).2
    conv => lhs; rw [← this]
    exact List.set_getElem_self hlt'
  · have hj2 : j = ds.length := by omega
    subst hj2
    have hni : f ∉ fvs.map (·.1) := by
      rw [n]
      intro z
      obtain ⟨i, hi, e⟩ := List.mem_iff_getElem.mp z
      have hi' : i < ds.length := by
        have := hi
        rw [List.length_take] at this
        omega
      rw [List.getElem_take] at e
      have h4 : names[i]? = some f := by
        rw [← e]
        exact List.getElem?_eq_getElem _
      have hi2 := (List.getElem?_eq_some_iff.mp h4).1
      have hj3 := (List.getElem?_eq_some_iff.mp hj).1
      have hinj := (List.getElem?_inj hi2 hn).mp (h4.trans hj.symm)
      omega
    rw [if_neg hlt, putF_end fvs hni, List.map_append, List.map_append, List.length_append, n]
    refine ⟨?_, r.append (.cons rv .nil)⟩
    show names.take ds.length ++ [f] = names.take (ds.length + 1)
    rw [List.take_succ, hj]
    rfl
end
section
variable {X : Cx} {cl : Cl} {wx : WX} {pos : Pos} {w : Wf} {L : List Addr} {sd : S} {σ : L2.St} {H : Hp} {fe : S → M (D × S)} {e : Expr} {c f : Str} {C : Addr} {names : List Str} {j : Nat}
/-- e.f -/
theorem d_fld (k : ClsD X.K cl c C names) (he : PE X e (TEof X.K cl wx fe)) (hj : names[j]? = some f := by rfl) (hab : attributeBase e f X.env (eval e X.env) = eval e X.env := by rfl) : PE X (.Attribute e f pos) (TEof X.K cl wx (dFld c j fe)) := by
  refine iE (pe_fld he hab) ?_
  rintro σ H Q ⟨w, L, sd, W, h0⟩
  refine ⟨w, L, sd, W, PostE.bd botE h0 fun r s1 h v H1 st1 W1 rr => ?_⟩
  cases r with
  | obj c' ds =>
    dsimp only [fldD] at h
    split at h
    · next ec =>
      subst ec
      split at h
      · next d hd =>
        cases rr with
        | obj k0 e0 n0 r0 =>
          rw [k.at_] at k0
          cases k0
          obtain ⟨u, h1, h2, h3⟩ := fvs_at k.nd n0 r0 hj hd
          exact ⟨_, _, _, _, u, rfl, (hide_some.mp e0).2, k.cls, k.no f (List.mem_of_getElem? hj), h2, h u H1 st1 W1 h3⟩
      · exact h.elim
    · exact h.elim
  | _ => exact h.elim
/-- self.f, self of the def's own -/
theorem d_ownFld (i : Nat) {x : Str} {p0 : Pos} (k : ClsD X.K cl c C names) (hj : names[j]? = some f := by rfl) (hN : X.N[i]? = some x := by rfl) (hv : Vis X.env.scope x := by first | exact Or.inl rfl | exact Or.inr (Or.inl rfl) | exact Or.inr (Or.inr rfl))
    (hd : (x == ("__debug__" : Str)) = false := by decide) (hcd : (x == ("__classdict__" : Str)) = false := by decide) (hab : attributeBase (.Name x p0) f X.env (eval (.Name x p0) X.env) = eval (.Name x p0) X.env := by rfl) :
    PE X (.Attribute (.Name x p0) f pos) (TEof X.K cl wx (dOwnFld i c j)) := by
  refine iE (pe_fld (pe_var hN hv hd hcd) hab) ?_
  rintro σ H Q ⟨w, L, sd, W, h⟩
  unfold dOwnFld at h
  split at h
  · next d ed =>
    obtain ⟨a, h1, h2, h3⟩ := W.atD ed
    refine ⟨.ref a, h1, ?_⟩
    cases d with
    | obj c' ds =>
      dsimp only [fldD] at h
      split at h
      · next ec =>
        subst ec
        split at h
        · next d hd =>
          obtain ⟨C0, ns0, dx, fvs, k0, e0, n0, r0⟩ := h3
          rw [k.at_] at k0
          cases k0
          obtain ⟨u, g1, g2, g3⟩ := fvs_at k.nd n0 r0 hj hd
          exact ⟨_, _, _, _, u, rfl, e0, k.cls, k.no f (List.mem_of_getElem? hj), g2, h u H .refl W g3⟩
        · exact h.elim
      · exact h.elim
    | _ => exact h.elim
  · exact h.elim
/-- self.f = e -/
theorem s_fldPut (i : Nat) {x : Str} {p0 pos' : Pos} (k : ClsD X.K cl c C names) (he : PE X e (TEof X.K cl wx fe)) (hj : names[j]? = some f := by rfl) (hN : X.N[i]? = some x := by rfl)
    (hv : Vis X.env.scope x := by first | exact Or.inl rfl | exact Or.inr (Or.inl rfl) | exact Or.inr (Or.inr rfl)) (hd : (x == ("__debug__" : Str)) = false := by decide) (hcd : (x == ("__classdict__" : Str)) = false := by decide)
    (hs : swapsWith e (some (.Attribute (.Name x p0) f pos')) pos.line X.env = pure false := by rfl) : PS X (.Assign [.Attribute (.Name x p0) f pos'] e pos) (TSof X.K cl wx [] (sFldPut i c j fe)) := by
  refine iS (ps_fld (pe_var hN hv hd hcd) he hs) ?_
  rintro E σ H ⟨w, L, sd, W, h⟩
  refine ⟨w, L, sd, W, PostE.bd botS h fun r s1 h v H1 st1 W1 rr => ?_⟩
  dsimp only at h
  split at h
  · next c' ds ed =>
    obtain ⟨a, h1, h2, h3⟩ := W1.atD ed
    refine ⟨.ref a, h1, ?_⟩
    split at h
    · next hc =>
      obtain ⟨rfl, hl, hz⟩ := hc
      have hal := h3.some
      obtain ⟨C0, ns0, dx, fvs, k0, e0, n0, r0⟩ := h3
      rw [k.at_] at k0
      cases k0
      obtain ⟨g1, g2⟩ := fvs_put (d := r) k.nd n0 r0 hj hl rr
      have hin : a ∈ L ++ w.O0 := by
        rcases h2 with z | z
        · (exact List.mem_append_left _ z)
        · exact List.mem_append_right _ (W.sub a z.2)
      obtain ⟨W2, st2⟩ := W1.wrote (H' := upd H1 a (.ins C dx (putF f v fvs))) (d1 := .obj c' (setF ds j r)) ed h1 h2 hal (fun b o n q => by rw [upd_ne n]; exact q) ⟨C, names, dx, _, k.at_, upd_same, g1, by rw [hide_in hin]; exact g2⟩
      refine ⟨a, C, dx, fvs, rfl, e0, k.cls, k.no f (List.mem_of_getElem? hj), ?_, h L σ _ (st1.trans st2) W2 .refl⟩
      rw [fvs_len n0 r0]
      exact hz
    · exact h.elim
  · exact h.elim
end
end Dt
namespace Dt
open L2 PySem PySem.Spec PyProof.Rows
/-! ### C(..): a new instance -/
/-- the new instance is what the constructor has made of it -/
def bdM (m : M (D × D)) (s : S) : M (D × S) := match m with
  | some (.ok (.non, d)) => ok (d, s)
  | some (.ex e [.val _]) => some (.ex e s)
  | _ => none
theorem bdM_ok (d : D) (s : S) : bdM (ok (.non, d)) s = ok (d, s) := by
  have h : bdM (ok (.non, d)) s = ok (d, s) := rfl
  exact h
def tMakeX (C : Addr) (sp : Sp) (dvs : List V) (E : L2.St → XK) (t : TA) : TE := fun σ H Q => t σ H fun vs H1 => ∀ x dx, H1 x = none → H1 dx = none → dx ≠ x →
  sp (.ref x :: (vs ++ dvs)) (upd (upd H1 dx (.own x)) x (.ins C dx [])) (fun v H2 => v = .non ∧ Q (.ref x) H2) (E σ)
def tMethX (C : Addr) (m : Str) (sp : Sp) (dvs : List V) (E : L2.St → XK) (ta : TE) (t : TA) : TE := fun σ H Q => ta σ H fun x H1 => ∃ a dx fs, x = .ref a ∧ H1 a = some (.ins C dx fs) ∧ fs.lookup m = none ∧
  t σ H1 fun vs H2 => sp (x :: (vs ++ dvs)) H2 Q (E σ)
def dMake (c : Str) (n : Nat) (g : D → List D → M (D × D)) (dd : List D) (fr : S → M (List D × S)) : S → M (D × S) := fun s => bd (fr s) fun p =>
  if (p.1 ++ dd).length + 1 = n then bdM (g (.obj c []) (p.1 ++ dd)) p.2 else none
section
variable {X : Cx} {CX : CXT} {k n : Nat} {f C : Addr} {fd : FuncData} {ps : List Str} {sp : Sp} {dvs : List V} {ds : List Value} {dd : List D} {E : L2.St → XK} {x c : Str} {p pos : Pos} {e : Expr} {es : List Expr} {t : TA} {cl : Cl} {wx : WX} {fr : S → M (List D × S)} {g : D → List D → M (D × D)} {names : List Str}
theorem guards_make {A : Around} {vs : List Value} {kw : List (Str × Value)} (h : A.guards = some []) : (A.under (.builtin "type.__call__" ⟨vs, kw⟩)).guards = some [] := by
  show pushGuards (Code.guards (.builtin "type.__call__" ⟨vs, kw⟩)) A.guards = some []
  have e : Code.guards (.builtin "type.__call__" ⟨vs, kw⟩) = [] := by simp [Code.guards, Code.isGuard, guardIds]
  rw [e, h] <;> rfl
theorem run_makeG {E : XK} {pins : List (Addr × Obj)} {σ : L2.St} {H : Hp} {s : Shared} {Q : VK} {us : List Value} {kw : List (Str × Value)} {us2 : List Value} {vs2 : List V} (M : Mk X.K C f) (F : FnG X.prog X.w X.K X.mg X.base CX k f fd ps sp) (hgd : X.A.guards = some []) (hr : Room (k + 1) X.A) (hx : PassesAt CX X σ E) (I : Inv X pins σ H s)
    (hb : ∀ (s1 : Shared) (a : Addr), X.K.In s1.heap → BindsTo s1 fd ⟨.ref a :: us, kw⟩ (ps.zip (.ref a :: us2))) (r : Vals vs2 us2)
    (h : ∀ x dx, H x = none → H dx = none → dx ≠ x → sp (.ref x :: vs2) (upd (upd H dx (.own x)) x (.ins C dx [])) (fun v H2 => v = .non ∧ Q (.ref x) H2) E) :
    wpAny (model X.prog X.w) X.A (call (.ref C) us kw) (EP X pins σ Q) X.xe s := by
  have h1 := h (s.heap.objs.size + 1) s.heap.objs.size (I.hok.fresh (Nat.le_succ _)) (I.hok.fresh (Nat.le_refl _)) (Nat.ne_of_lt (Nat.lt_succ_self _))
  (have I2 := Inv.made (C := C) I)
  have r2 : Vals (V.ref (s.heap.objs.size + 1) :: vs2) (Value.ref (s.heap.objs.size + 1) :: us2) := .cons rfl r
  have go := F.go _ X.stack _ _ _ _ _ _ E (guards_make (vs := .ref C :: us) (kw := kw) hgd) (hr.make C us kw) (I2.env0.make C us kw) (hb _ _ I2.kIn) r2 h1
  refine wpAny_call (make_map (f := f) I.kIn M.makes M.init (beq_iff_eq.mp M.fn) (codeAny_mono go fun r s' hq => ?_))
  have q := ret_of hx I2 r s' hq
  match r, q with
  | .error e, q => exact q
  | .ok (.ret u), q =>
    obtain ⟨v, H', I3, rv, ev, q3⟩ := q
    subst ev
    (exact ⟨rv, ⟨V.ref (s.heap.objs.size + 1), H', I3, rfl, q3⟩⟩)
/-- C(e, ..) -/
theorem pe_makeG (M : Mk X.K C f) (F : FnG X.prog X.w X.K X.mg X.base CX k f fd ps sp) (hgd : X.A.guards = some []) (hr : Room (k + 1) X.A) (hm : X.mg x = some (.ref C)) (hb : Binds X.K fd ps ds) (hd : Vals dvs ds) (hx : ∀ σ, PassesAt CX X σ (E σ))
    (ha : PA X (e :: es) t) (hg : Gl X x := by rfl) (hdb : (x == ("__debug__" : Str)) = false := by decide) (he : starEach (e :: es) X.env = (false, eval e X.env) :: starEach es X.env := by rfl) (hpl : (backTo pos (starEach es X.env)).any (·.1) = false := by rfl) :
    PE X (.Call (.Name x p) (e :: es) [] pos) (tMakeX C sp dvs E t) := by
  constructor
  intro pins s σ H Q I h
  refine wpAny_Call_Name_kw (ld_glob I hg hm (PySem.W.callWith_K (h₀ := X.base) I.ok.mod.kin M.kp (thn (ha.run pos pins s σ H _ I h) ?_) he hpl) hdb)
  rintro us s1 ⟨vs, H1, I1, r, q⟩
  have hl : ∀ a : Addr, ((.ref a :: us) ++ ds).length = ps.length := fun a => by
    have h2 := q (s1.heap.objs.size + 1) s1.heap.objs.size (I1.hok.fresh (Nat.le_succ _)) (I1.hok.fresh (Nat.le_refl _)) (Nat.ne_of_lt (Nat.lt_succ_self _))
    have e1 := F.len _ _ _ _ h2
    have e2 := (r.append hd).length
    rw [List.length_cons] at e1
    rw [List.cons_append, List.length_cons]
    omega
  exact ⟨I1.kIn, run_makeG (us2 := us ++ ds) (vs2 := vs ++ dvs) M F hgd hr (hx σ) I1 (fun s2 a kin => hb s2 (.ref a :: us) kin (hl a)) (r.append hd) q⟩
/-- what the constructor's promise asks, by the data -/
theorem make_readG (kc : ClsD X.K cl c C names) (hdd : ∀ H : Hp, RpA X.K cl H dvs dd) : ∀ σ H Q, TFof X.K cl wx (dMake c n g dd fr) σ H Q → tMakeX C (spI X.K cl n g) dvs (WE wx) (TAof X.K cl wx fr) σ H Q := by
  rintro σ H Q ⟨w, L, sd, W, h⟩
  refine ⟨w, L, sd, W, PostA.bd botF h fun rs s1 h vs H1 st1 W1 rr => ?_⟩
  intro y dx ny ndx hne
  dsimp only at h
  split at h
  · next c1 =>
    have rr2 := rr.append (hdd (hide (L ++ w.O0) H1))
    have nyO : y ∉ L ++ w.O0 := W1.new_ne ny
    have ndO : dx ∉ L ++ w.O0 := W1.new_ne ndx
    have sm1 : Same H1 (upd (upd H1 dx (.own y)) y (.ins C dx [])) := fun b o z => by
      rw [upd_ne (ne_of_none z ny), upd_ne (ne_of_none z ndx)]
      exact z
    have sm2 : Same (hide (L ++ w.O0) H1) (hide (y :: (L ++ w.O0)) (upd (upd H1 dx (.own y)) y (.ins C dx []))) := fun b o z => by
      obtain ⟨z1, z2⟩ := hide_some.mp z
      refine hide_some.mpr ⟨fun q => ?_, sm1 b o z2⟩
      rcases List.mem_cons.mp q with q | q
      · rw [q, ny] at z2
        cases z2
      · exact z1 q
    refine ⟨?_, y :: (L ++ w.O0), y, .obj c [], vs ++ dvs, rs ++ dd, rfl, fun b hb => ?_, List.mem_cons_self, ⟨C, names, dx, [], kc.at_, upd_same, by simp, .nil⟩, rr2.mono sm2, ?_⟩
    · have := rr2.len
      simp only [List.length_cons] at this ⊢
      omega
    · (rcases List.mem_cons.mp hb with rfl | hb)
      · rw [upd_same]; simp
      · cases q : H1 b with
        | none => exact absurd q (W1.alive b hb)
        | some o => rw [sm1 b o q]; simp
    · generalize g (.obj c []) (rs ++ dd) = mm at h
      match mm, h with
      | none, h => exact h.elim
      | some (.ex e []), h => exact h.elim
      | some (.ex e (.un :: _)), h => exact h.elim
      | some (.ex e (.own _ :: _)), h => exact h.elim
      | some (.ex e (.io _ :: _)), h => exact h.elim
      | some (.ex e (.val _ :: _ :: _)), h => exact h.elim
      | some (.ex e [.val d']), h =>
        intro cls d2 H' kp ho x
        have sm3 : Same H1 H' := fun b o z => kp b o (ne_of_none z ny) (sm1 b o z)
        exact h L σ H' cls d2 (W1.ext sm3) (x.mono (hide_sub fun a ha => List.mem_cons_of_mem _ ha))
      | some (.ok (.non, d')), h =>
        intro v H' kp ho rv
        cases rv
        refine ⟨rfl, ?_⟩
        have sm3 : Same H1 H' := fun b o z => kp b o (ne_of_none z ny) (sm1 b o z)
        have st2 : Step w L H1 (y :: L) H' := ⟨fun b o _ _ e => sm3 b o e, (Step.of_same (w := w) (L := L) sm3).alv, fun a ha => by
          (rcases List.mem_cons.mp ha with rfl | ha)
          · exact .inr ny
          · exact .inl ha⟩
        exact h y H' (st1.trans st2) nyO (W1.ext sm3) (W1.made sm3 ny ho.some) (ho.old fun b z => st1.old (by
          cases q : H1 b with
          | none => rfl
          | some o => rw [sm1 b o q] at z; cases z))
      | some (.ok (.bl _, d')), h => exact h.elim
      | some (.ok (.int _, d')), h => exact h.elim
      | some (.ok (.str _, d')), h => exact h.elim
      | some (.ok (.lst _, d')), h => exact h.elim
      | some (.ok (.tup _, d')), h => exact h.elim
      | some (.ok (.obj _ _, d')), h => exact h.elim
      | some (.ok (.dic _ _, d')), h => exact h.elim
  · exact h.elim
/-- C(e, ..) as data -/
theorem f_make (kc : ClsD X.K cl c C names) (M : Mk X.K C f) (F : FnG X.prog X.w X.K X.mg X.base (L2.CX X.prog X.w) k f fd ps (spI X.K cl n g)) (hgd : X.A.guards = some []) (hr : Room (k + 1) X.A) (hm : X.mg x = some (.ref C)) (hb : Binds X.K fd ps ds) (hd : Vals dvs ds) (hdd : ∀ H : Hp, RpA X.K cl H dvs dd)
    (ha : PA X (e :: es) (TAof X.K cl wx fr)) (hg : Gl X x := by rfl) (hdb : (x == ("__debug__" : Str)) = false := by decide) (he : starEach (e :: es) X.env = (false, eval e X.env) :: starEach es X.env := by rfl) (hpl : (backTo pos (starEach es X.env)).any (·.1) = false := by rfl) (tk : Takes X wx := by first | assumption | exact takes_no) :
    PE X (.Call (.Name x p) (e :: es) [] pos) (TFof X.K cl wx (dMake c n g dd fr)) := iE (pe_makeG M F hgd hr hm hb hd (fun σ => passAt tk σ) ha hg hdb he hpl) (make_readG kc hdd)
end
/-! ### o.m(..), o.f of an instance that is a value -/
def dMeth (c m : Str) (n : Nat) (g : FnD) (dd : List D) (fo : S → M (D × S)) (fr : S → M (List D × S)) : S → M (D × S) := fun s => bd (fo s) fun o => match o.1 with
  | .obj c' _ => if c' = c then bd (fr o.2) fun p => if (p.1 ++ dd).length + 1 = n then bdC (g (o.1 :: (p.1 ++ dd))) p.2 fun r => ok (r, p.2) else none else none
  | _ => none
def dProp (c : Str) (g : FnD) (fo : S → M (D × S)) : S → M (D × S) := fun s => bd (fo s) fun o => match o.1 with
  | .obj c' _ => if c' = c then bd (nx (g [o.1])) fun r => ok (r, o.2) else none
  | _ => none
section
variable {X : Cx} {CX : CXT} {k n : Nat} {f C pa : Addr} {fd : FuncData} {ps : List Str} {sp : Sp} {dvs : List V} {ds : List Value} {dd : List D} {E : L2.St → XK} {m c : Str} {p pos apos : Pos} {e o : Expr} {es : List Expr} {ta : TE} {t : TA} {cl : Cl} {wx : WX} {fo : S → M (D × S)} {fr : S → M (List D × S)} {g : FnD} {names : List Str}
/-- o.m(e, ..) -/
theorem pe_methG {pl : Sem Bool} (he : PE X o ta) (c : Cls X.K C) (hm : Meth X.K C m f) (F : FnG X.prog X.w X.K X.mg X.base CX k f fd ps sp) (hgd : X.A.guards = some []) (hr : Room k X.A) (hb : Binds X.K fd ps ds) (hd : Vals dvs ds) (hx : ∀ σ, PassesAt CX X σ (E σ)) (ha : PA X (e :: es) t)
    (hst : starEach (e :: es) X.env = (false, eval e X.env) :: starEach es X.env := by rfl) (hpl
          : (backTo pos (starEach es X.env)).any (·.1) = false := by rfl)
    (ht : eval
          (.Call (.Attribute o m apos) (e :: es) [] pos) X.env = (do
      let ov ← eval o X.env
      standAt apos.atName
      let (f, first) ← holding [ov]
            (getMethod ov m pl)
      callWith pos f first
            (backTo pos (starEach (e :: es) X.env)) (backToKw pos (keywordEach [] X.env))) := by rfl) :
    PE X (.Call (.Attribute o m apos) (e :: es) [] pos) (tMethX C m sp dvs E ta t) := by
  constructor
  intro pins s σ H Q I h
  refine PySem.W.methodCall_KW (pl := pl) (thn (he.run pins s σ H _ I h) ?_) ht
  rintro u s1 ⟨x, H1, I1, rx, a, dx, fs, rfl, ea, l, q⟩
  (obtain rfl : u = Value.ref a := rx)
  refine getmeth_ok I1 ea c hm l (PySem.W.callWith_K (first := [.ref a]) (h₀ := X.base) I.ok.mod.kin hm.kp (thn (ha.run pos pins s1 σ H1 _ I1 q) ?_) hst hpl)
  rintro us s2 ⟨vs, H2, I2, r, q2⟩
  have rr : Vals (.ref a :: (vs ++ dvs)) (.ref a :: (us ++ ds)) := .cons rfl (r.append hd)
  have hl : ((.ref a :: us) ++ ds).length = ps.length := rr.length.symm.trans (F.len _ _ _ _ q2)
  exact ⟨I2.kIn, ran (us := .ref a :: us) (hx σ) I2 (F.go X.A X.stack s2 H2 ⟨.ref a :: us, []⟩ (.ref a :: (us ++ ds)) (.ref a :: (vs ++ dvs)) Q (E σ) hgd hr I2.env0 (hb s2 (.ref a :: us) I2.kIn hl) rr q2)⟩
/-- o.m() -/
theorem pe_methG0 {pl : Sem Bool} (he : PE X o ta) (c : Cls X.K C) (hm : Meth X.K C m f) (F : FnG X.prog X.w X.K X.mg X.base CX k f fd ps sp) (hgd : X.A.guards = some []) (hr : Room k X.A) (hb : Binds X.K fd ps ds) (hd : Vals dvs ds) (hx : ∀ σ, PassesAt CX X σ (E σ))
    (ht : eval
          (.Call (.Attribute o m apos) [] [] pos) X.env = (do
      let ov ← eval o X.env
      standAt apos.atName
      let (f, first) ← holding [ov]
            (getMethod ov m pl)
      callWith pos f first
            (backTo pos (starEach [] X.env)) (backToKw pos (keywordEach [] X.env))) := by rfl) :
    PE X (.Call (.Attribute o m apos) [] [] pos) (tMethX C m sp dvs E ta tNil) := by
  constructor
  intro pins s σ H Q I h
  refine PySem.W.methodCall_KW (pl := pl) (thn (he.run pins s σ H _ I h) ?_) ht
  rintro u s1 ⟨x, H1, I1, rx, a, dx, fs, rfl, ea, l, q⟩
  (obtain rfl : u = Value.ref a := rx)
  have q2 : sp (.ref a :: ([] ++ dvs)) H1 Q (E σ) := q
  have rr : Vals (.ref a :: ([] ++ dvs)) (.ref a :: ([] ++ ds)) := .cons rfl hd
  have hl : (([Value.ref a]) ++ ds).length = ps.length := rr.length.symm.trans (F.len _ _ _ _ q2)
  exact getmeth_ok I1 ea c hm l (PySem.W.callWith_K0 (first := [.ref a]) I1.kIn hm.kp (ran (us := [.ref a]) (hx σ) I1 (F.go X.A X.stack s1 H1 ⟨[.ref a], []⟩ (.ref a :: ds) (.ref a :: dvs) Q (E σ) hgd hr I1.env0 (hb s1 [.ref a] I1.kIn hl) rr q2)))
/-- o.f, a property -/
theorem pe_propG {E : XK} (he : PE X o ta) (c : Cls X.K C) (hp : PropOf X.K C m pa f) (F : FnG X.prog X.w X.K X.mg X.base CX k f fd ps sp) (hgd : X.A.guards = some []) (hr : Room (k + 1) X.A) (hb : Binds X.K fd ps []) (hx : Passes CX X.nox E)
    (hab : attributeBase o m X.env (eval o X.env) = eval o X.env := by rfl) : PE X (.Attribute o m pos) (tProp C sp [] E ta) := by
  constructor
  intro pins s σ H Q I h
  refine attr_of hab (thn (he.run pins s σ H _ I h) ?_)
  rintro u s1 ⟨x, H1, I1, rx, a, dx, fs, rfl, ea, q⟩
  (obtain rfl : u = Value.ref a := rx)
  obtain ⟨_, O, _, _, _, _⟩ := ins_get I1.hok ea
  obtain ⟨od, J, _⟩ := O.look
  (obtain ⟨rest, hrec⟩ := hp.rec_)
  have I2 := I1.tok (s1.toks + 1)
  have hl : ([Value.ref a] ++ []).length = ps.length := F.len _ _ _ _ q
  have hc
        : (PySem.W.clsIn X.K C).isSome = true := by
    (obtain ⟨cd, hc, _⟩ := PySem.W.any_some c.hd)
    rw [hc]; rfl
  refine PySem.W.get_bind I1.kIn J (PySem.W.plainGet_of (c.get m)).1 (PySem.W.findObj_data hc hp.at_ hp.get hp.tak) (PySem.W.plainGet_of (c.get m)).2 (wpAny_call (PySem.W.prop_get (s := { s1 with toks := s1.toks + 1 }) I1.kIn hrec ?_))
  refine codeAny_mono (F.go X.A.in1 X.stack { s1 with toks := s1.toks + 1 } H1 ⟨[.ref a], []⟩ [.ref a] [.ref a] Q E hgd hr.in1 I2.env0.in1 (hb _ [.ref a] I2.kIn hl) (.cons rfl .nil) q) fun r s' hq => ?_
  match r, hq with
  | .error er, hq => exact False.elim (hx pins σ H1 { s1 with toks := s1.toks + 1 } er s' (I2.wish _) hq)
  | .ok (.ret u), hq =>
    obtain ⟨v, H', I3, rv, q3⟩ := I2.after hq
    (show wpAny _ _ (handedOut u) _ _ _)
    (rw [PySem.W.handedOut_of (handed_of rv)])
    (exact wpAny_pure ⟨v, H', I3, rv, q3⟩)
  | .ok .next, hq => exact hq.elim
  | .ok .brk, hq => exact hq.elim
  | .ok .cont, hq => exact hq.elim
theorem meth_read (kc : ClsD X.K cl c C names) (hm : m ∉ names) (hdd : ∀ H : Hp, RpA X.K cl H dvs dd) : ∀ σ H Q, TEof X.K cl wx (dMeth c m n g dd fo fr) σ H Q → tMethX C m (spP X.K cl n g) dvs (WE wx) (TEof X.K cl wx fo) (TAof X.K cl wx fr) σ H Q := by
  rintro σ H Q ⟨w, L, sd, W, h0⟩
  refine ⟨w, L, sd, W, PostE.bd botE h0 fun r s1 h v H1 st1 W1 rr => ?_⟩
  cases r with
  | obj c' fs =>
    dsimp only at h
    split at h
    · next ec =>
      subst ec
      cases rr with
      | obj k0 e0 n0 r0 =>
        rw [kc.at_] at k0
        cases k0
        rename_i a dx fvs
        have e1 := (hide_some.mp e0).2
        refine ⟨a, dx, fvs, rfl, e1, ?_, w, L, s1, W1, PostA.bd botE h fun rs s2 h vs H2 st2 W2 rrs => ?_⟩
        · cases q : fvs.lookup m with
          | none => rfl
          | some u =>
            refine absurd ?_ hm
            have hmem : ∀ (l : List (Str × V)) (u : V), l.lookup m = some u → m ∈ l.map (·.1) := by
              intro l
              induction l with
              | nil => intro u h; cases h
              | cons z l ih =>
                intro u h
                obtain ⟨z1, z2⟩ := z
                rw [List.lookup] at h
                split at h
                · next hb => simp [beq_iff_eq.mp hb]
                · simp only [List.map_cons, List.mem_cons]
                  exact .inr (ih u h)
            have := hmem fvs u q
            rw [n0] at this
            exact List.mem_of_mem_take this
        · dsimp only at h
          split at h
          · next c1 =>
            have ro : Rp X.K cl (hide (L ++ w.O0) H2) (.ref a) (.obj c' fs) := (Rp.obj kc.at_ e0 n0 r0).mono (st2.sn W2)
            have rr2 := rrs.append (hdd (hide (L ++ w.O0) H2))
            refine ⟨?_, L ++ w.O0, .obj c' fs :: (rs ++ dd), W2.alive, .cons ro rr2, h.finC (st1.trans st2) W2⟩
            have := rr2.len
            simp only [List.length_cons] at this ⊢
            omega
          · exact h.elim
    · exact h.elim
  | _ => exact h.elim
theorem d_meth {pl : Sem Bool} (kc : ClsD X.K cl c C names) (hmn : m ∉ names) (hm : Meth X.K C m f) (F : FnG X.prog X.w X.K X.mg X.base (L2.CX X.prog X.w) k f fd ps (spP X.K cl n g)) (hgd : X.A.guards = some []) (hr : Room k X.A) (hb : Binds X.K fd ps ds) (hd : Vals dvs ds) (hdd : ∀ H : Hp, RpA X.K cl H dvs dd)
    (he : PE X o (TEof X.K cl wx fo)) (ha : PA X (e :: es) (TAof X.K cl wx fr)) (hst : starEach (e :: es) X.env = (false, eval e X.env) :: starEach es X.env := by rfl) (hpl : (backTo pos (starEach es X.env)).any (·.1) = false := by rfl)
    (ht : eval
          (.Call (.Attribute o m apos) (e :: es) [] pos) X.env = (do
      let ov ← eval o X.env
      standAt apos.atName
      let (f, first) ← holding [ov]
            (getMethod ov m pl)
      callWith pos f first (backTo pos (starEach (e :: es) X.env)) (backToKw pos (keywordEach [] X.env))) := by rfl) (tk : Takes X wx := by first | assumption | exact takes_no) :
    PE X (.Call (.Attribute o m apos) (e :: es) [] pos) (TEof X.K cl wx (dMeth c m n g dd fo fr)) := iE (pe_methG he kc.cls hm F hgd hr hb hd (fun σ => passAt tk σ) ha hst hpl ht) (meth_read kc hmn hdd)
theorem d_meth0 {pl : Sem Bool} (kc : ClsD X.K cl c C names) (hmn : m ∉ names) (hm : Meth X.K C m f) (F : FnG X.prog X.w X.K X.mg X.base (L2.CX X.prog X.w) k f fd ps (spP X.K cl n g)) (hgd : X.A.guards = some []) (hr : Room k X.A) (hb : Binds X.K fd ps ds) (hd : Vals dvs ds) (hdd : ∀ H : Hp, RpA X.K cl H dvs dd)
    (he : PE X o (TEof X.K cl wx fo))
    (ht : eval
          (.Call (.Attribute o m apos) [] [] pos) X.env = (do
      let ov ← eval o X.env
      standAt apos.atName
      let (f, first) ← holding [ov]
            (getMethod ov m pl)
      callWith pos f first (backTo pos (starEach [] X.env)) (backToKw pos (keywordEach [] X.env))) := by rfl) (tk : Takes X wx := by first | assumption | exact takes_no) :
    PE X (.Call (.Attribute o m apos) [] [] pos) (TEof X.K cl wx (dMeth c m n g dd fo aNil)) := iE (pe_methG0 he kc.cls hm F hgd hr hb hd (fun σ => passAt tk σ) ht) (fun σ H Q h => by
      obtain ⟨w, L, sd, W, h⟩ := meth_read kc hmn hdd σ H Q h
      refine ⟨w, L, sd, W, ?_⟩
      generalize fo sd = mm at h
      match mm, h with
      | none, h => exact h.elim
      | some (.ex _ _), h => exact h
      | some (.ok (r, s1)), h =>
        intro v H1 st1 W1 rr
        obtain ⟨a, dx, fs, h1, h2, h3, h4⟩ := h v H1 st1 W1 rr
        exact ⟨a, dx, fs, h1, h2, h3, nil_read σ H1 _ h4⟩)
theorem PostE.finN {K : PySem.W.Frag} {w : Wf} {L : List Addr} {σ : L2.St} {H H2 : Hp} {Q : VK} {s2 : S} {mm : M D} {E : XK} (h : PostE K cl wx w L σ H Q (Dt.bd (nx mm) fun r => ok (r, s2))) (st : Step w L H L H2) (W : Wl K cl w L s2 σ H2) : FinD K cl (L ++ w.O0) H2 Q E mm := by
  match mm, h with
  | none, h => exact h.elim
  | some (.ex e s'), h => exact h.elim
  | some (.ok r), h => exact fun v H3 sm rp => h v H3 (st.trans (.of_same sm)) (W.ext sm) rp
theorem passN {X : Cx} : Passes (L2.CX X.prog X.w) X.nox E0 := fun _ _ _ _ _ _ _ ⟨_, _, _, _, _, _, _, _, _, _, _, _, z⟩ => z.elim
theorem prop_read (kc : ClsD X.K cl c C names) : ∀ σ H Q, TEof X.K cl wx (dProp c g fo) σ H Q → tProp C (spP X.K cl 1 g) [] E0 (TEof X.K cl wx fo) σ H Q := by
  rintro σ H Q ⟨w, L, sd, W, h0⟩
  refine ⟨w, L, sd, W, PostE.bd botE h0 fun r s1 h v H1 st1 W1 rr => ?_⟩
  cases r with
  | obj c' fs =>
    dsimp only at h
    split at h
    · next ec =>
      subst ec
      have rr0 := rr
      cases rr with
      | obj k0 e0 n0 r0 =>
        rw [kc.at_] at k0
        cases k0
        exact ⟨_, _, _, rfl, (hide_some.mp e0).2, rfl, L ++ w.O0, [.obj c' fs], W1.alive, .cons rr0 .nil, h.finN st1 W1⟩
    · exact h.elim
  | _ => exact h.elim
theorem d_prop (kc : ClsD X.K cl c C names) (hp : PropOf X.K C m pa f) (F : FnG X.prog X.w X.K X.mg X.base (L2.CX X.prog X.w) k f fd ps (spP X.K cl 1 g)) (hgd : X.A.guards = some []) (hr : Room (k + 1) X.A) (hb : Binds X.K fd ps []) (he : PE X o (TEof X.K cl wx fo))
    (hab : attributeBase o m X.env (eval o X.env) = eval o X.env := by rfl) : PE X (.Attribute o m pos) (TEof X.K cl wx (dProp c g fo)) := iE (pe_propG he kc.cls hp F hgd hr hb passN hab) (prop_read kc)
end
end Dt
namespace Dt
open L2 PySem PySem.Spec PyProof.Rows
/-! ### a op b op c -/
def dChain (g g' : Op2) (fa fb fc : S → M (D × S)) : S → M (D × S) := fun s => bd (fa s) fun p => bd (fb p.2) fun q => bd (g p.1 q.1) fun r => match r with
  | .bl true => bd (fc q.2) fun t => bd (g' q.1 t.1) fun z => ok (z, t.2)
  | .bl false => ok (.bl false, q.2)
  | _ => none
section
variable {X : Cx} {K : PySem.W.Frag} {cl : Cl} {wx : WX} {pos : Pos} {a b c : Expr} {fa fb fc : S → M (D × S)} {g g' : Op2} {op op' : CmpOp}
theorem chain_read {r r' : R2} (h2 : OpD K cl r g) (h2' : OpD K cl r' g') : ∀ σ H Q, TEof K cl wx (dChain g g' fa fb fc) σ H Q → tChain r r' (TEof K cl wx fa) (TEof K cl wx fb) (TEof K cl wx fc) σ H Q := by
  rintro σ H Q ⟨w, L, sd, W, h0⟩
  refine ⟨w, L, sd, W, PostE.bd botE h0 fun x s1 h v H1 st1 W1 rx => ?_⟩
  refine ⟨w, L, s1, W1, PostE.bd botE h fun y s2 h u H2 st2 W2 ry => ?_⟩
  refine h2 (L ++ w.O0) H2 v u x y _ W2.alive (rx.mono (st2.sn W2)) ry ?_
  dsimp only at h
  generalize g x y = mm at h
  match mm, h with
  | none, h => exact h.elim
  | some (.ex _ _), h => exact True.intro
  | some (.ok r0), h =>
    intro z H3 sm rz
    have st3 : Step w L H2 L H3 := .of_same sm
    cases r0 with
    | bl k =>
      cases rz
      cases k with
      | false => exact ⟨false, rfl, by rw [if_neg Bool.false_ne_true]; exact h (.bl false) H3 ((st1.trans st2).trans st3) (W2.ext sm) (.bl _)⟩
      | true =>
        refine ⟨true, rfl, ?_⟩
        rw [if_pos rfl]
        have W3 := W2.ext sm
        refine ⟨w, L, s2, W3, PostE.bd botE h fun t s4 h v4 H4 st4 W4 rt => ?_⟩
        exact h2' (L ++ w.O0) H4 u v4 y t Q W4.alive ((ry.mono (st3.sn W3)).mono (st4.sn W4)) rt (h.fin (((st1.trans st2).trans st3).trans st4) W4)
    | _ => exact h.elim
theorem d_chain (ho : OpK X K cl (compareOp op) g) (ho' : OpK X K cl (compareOp op') g') (ha : PE X a (TEof K cl wx fa)) (hb : PE X b (TEof K cl wx fb)) (hc : PE X c (TEof K cl wx fc))
    (hm : lastMarks [op, op'] [b, c] = false := by with_unfolding_all rfl) : PE X (.Compare a [op, op'] [b, c] pos) (TEof K cl wx (dChain g g' fa fb fc)) := by
  obtain ⟨r, h1, h2⟩ := ho.it
  obtain ⟨r', h1', h2'⟩ := ho'.it
  exact iE (pe_chain h1 h1' ha hb hc hm) (chain_read h2 h2')
end
/-! ### built-ins that make a list -/
def FreshD (K : PySem.W.Frag) (cl : Cl) (r : List V → Hp → VK → Prop) (g : OpN) : Prop := ∀ (O : List Addr) (H : Hp) (xs : List V) (ds : List D) (Q : VK), (∀ a ∈ O, H a ≠ none) → RpA K cl (hide O H) xs ds →
  (match g ds with
    | some (.ok d) => ∀ p H', Same H H' → H p = none → OwnAt K cl H (p :: O) H' p d → Q (.ref p) H'
    | some (.ex _ _) => True
    | none => False) → r xs H Q
structure FreshK (X : Cx) (K : PySem.W.Frag) (cl : Cl) (f : Value) (g : OpN) : Prop where
  it : ∃ r, CallR X f r ∧ FreshD K cl r g
section
variable {X : Cx} {K : PySem.W.Frag} {cl : Cl} {wx : WX} {pos p : Pos} {e : Expr} {es : List Expr} {fr : S → M (List D × S)} {g : OpN} {x : Str} {id T : String}
theorem fresh_read {r : List V → Hp → VK → Prop} (hd : FreshD K cl r g) : ∀ σ H Q, TFof K cl wx (dCall g fr) σ H Q → tCB r (TAof K cl wx fr) σ H Q := by
  rintro σ H Q ⟨w, L, sd, W, h⟩
  refine ⟨w, L, sd, W, PostA.bd botF h fun rs s1 h vs H1 st1 W1 rr => ?_⟩
  refine hd (L ++ w.O0) H1 vs rs Q W1.alive rr ?_
  dsimp only at h
  generalize g rs = mm at h
  match mm, h with
  | none, h => exact h.elim
  | some (.ex _ _), h => exact True.intro
  | some (.ok d), h =>
    intro p H' sm np ho
    have st2 : Step w L H1 (p :: L) H' := ⟨fun b o _ _ e => sm b o e, (Step.of_same (w := w) (L := L) sm).alv, fun a ha => by
      (rcases List.mem_cons.mp ha with rfl | ha)
      · exact .inr np
      · exact .inl ha⟩
    exact h p H' (st1.trans st2) (W1.new_ne np) (W1.ext sm) (W1.made sm np ho.some) (ho.old fun _ z => st1.old z)
theorem f_callB (hc : FreshK X K cl (.builtin id) g) (hm : X.mg x = none) (hv : bootBuiltins x = some (.builtin id)) (ha : PA X (e :: es) (TAof K cl wx fr)) (hg : Gl X x := by rfl) (hn : x ≠ "__name__" := by decide) (hdb : (x == ("__debug__" : Str)) = false := by decide)
    (he : starEach (e :: es) X.env = (false, eval e X.env) :: starEach es X.env := by rfl) (hpl : (backTo pos (starEach es X.env)).any (·.1) = false := by rfl) : PE X (.Call (.Name x p) (e :: es) [] pos) (TFof K cl wx (dCall g fr)) := by
  obtain ⟨r, h1, h2⟩ := hc.it
  exact iE (pe_callB h1 hg hm hv ha hn hdb he hpl) (fresh_read h2)
theorem f_callT (hc : FreshK X K cl (.type T) g) (hm : X.mg x = none) (hv : bootBuiltins x = some (.type T)) (ha : PA X (e :: es) (TAof K cl wx fr)) (hg : Gl X x := by rfl) (hn : x ≠ "__name__" := by decide) (hdb : (x == ("__debug__" : Str)) = false := by decide)
    (he : starEach (e :: es) X.env = (false, eval e X.env) :: starEach es X.env := by rfl) (hpl : (backTo pos (starEach es X.env)).any (·.1) = false := by rfl) : PE X (.Call (.Name x p) (e :: es) [] pos) (TFof K cl wx (dCall g fr)) := by
  obtain ⟨r, h1, h2⟩ := hc.it
  exact iE (pe_callTy h1 hg hm hv ha hn hdb he hpl) (fresh_read h2)
end
section
variable {X : Cx} {K : PySem.W.Frag} {cl : Cl} {wx : WX}
theorem own_new {O : List Addr} {H : Hp} {p : Addr} {xs : List V} {ds : List D} (al : ∀ a ∈ O, H a ≠ none) (np : H p = none) (r : RpA K cl (hide O H) xs ds) : OwnAt K cl H (p :: O) (upd H p (.lst xs)) p (.lst ds) := by
  refine ⟨xs, upd_same, r.mono fun b o z => ?_⟩
  obtain ⟨z1, z2⟩ := hide_some.mp z
  have nb := ne_of_none z2 np
  refine hide_some.mpr ⟨fun q => ?_, by rw [upd_ne nb]; exact z2⟩
  rcases List.mem_cons.mp q with q | q
  · exact nb q
  · exact z1 q
theorem f_list : FreshK X X.K cl (.type "list") listN := by
  refine ⟨_, call_list_of, fun O H xs ds Q al r h => ?_⟩
  unfold listN at h
  split at h
  · next d hd =>
    split at hd
    · obtain ⟨v, rfl, rv⟩ := r.one
      cases rv with
      | lst s r =>
        cases hd
        exact ⟨_, _, rfl, .inl (hide_le.seq s), fun p np => h p _ (same_upd np) np (own_new al np r)⟩
    · obtain ⟨v, rfl, rv⟩ := r.one
      cases rv with
      | tup s r =>
        cases hd
        exact ⟨_, _, rfl, .inr (same_sqT hide_le s), fun p np => h p _ (same_upd np) np (own_new al np r)⟩
    · cases hd
  · next hd =>
    split at hd <;> cases hd
  · exact h.elim
end
/-! ### sorted, ints -/
def insI (i : Int) : List Int → List Int
  | [] => [i]
  | j :: r => if i ≤ j then i :: j :: r else j :: insI i r
def sortI : List Int → List Int
  | [] => []
  | i :: r => insI i (sortI r)
theorem insI_perm (i : Int) : ∀ l : List Int, (insI i l).Perm (i :: l)
  | [] => .refl _
  | j :: r => by
    unfold insI
    split
    · exact .refl _
    · exact ((insI_perm i r).cons j).trans (.swap i j r)
theorem sortI_perm : ∀ l : List Int, (sortI l).Perm l
  | [] => .refl _
  | i :: r => (insI_perm i (sortI r)).trans ((sortI_perm r).cons i)
theorem insI_sorted (i : Int) : ∀ l : List Int, l.Pairwise (· ≤ ·) → (insI i l).Pairwise (· ≤ ·)
  | [], _ => by simp [insI]
  | j :: r, h => by
    (obtain ⟨h1, h2⟩ := List.pairwise_cons.mp h)
    unfold insI
    split
    · next c =>
      refine List.pairwise_cons.mpr ⟨fun y hy => ?_, h⟩
      (rcases List.mem_cons.mp hy with rfl | hy)
      · exact c
      · exact Int.le_trans c (h1 y hy)
    · next c =>
      refine List.pairwise_cons.mpr ⟨fun y hy => ?_, insI_sorted i r h2⟩
      rcases List.mem_cons.mp ((insI_perm i r).mem_iff.mp hy) with rfl | hy
      · omega
      · exact h1 y hy
theorem sortI_sorted : ∀ l : List Int, (sortI l).Pairwise (· ≤ ·)
  | [] => .nil
  | i :: r => insI_sorted i _ (sortI_sorted r)
theorem sorted_one : ∀ (l m : List Int), l.Perm m → l.Pairwise (· ≤ ·) → m.Pairwise (· ≤ ·) → l = m
  | [], m, h, _, _ => (List.Perm.nil_eq h)
  | i :: l, [], h, _, _ => absurd h.length_eq (by simp)
  | i :: l, j :: m, h, hl, hm => by
    obtain ⟨l1, l2⟩ := List.pairwise_cons.mp hl
    obtain ⟨m1, m2⟩ := List.pairwise_cons.mp hm
    have e : i = j := by
      have a : i ≤ j := by
        rcases List.mem_cons.mp (h.mem_iff.mpr (List.mem_cons_self (a := j) (l := m))) with q | q
        · omega
        · exact l1 j q
      have b : j ≤ i := by
        rcases List.mem_cons.mp (h.mem_iff.mp (List.mem_cons_self (a := i) (l := l))) with q | q
        · omega
        · exact m1 i q
      omega
    subst e
    rw [sorted_one l m (h.cons_inv) l2 m2]
def sortedN : OpN := fun ds => match ds with
  | [.lst xs] => match ints? xs with
    | some ns => ok (.lst ((sortI ns).map D.int))
    | none => none
  | _ => none
section
variable {X : Cx} {cl : Cl} {wx : WX}
theorem f_sorted : FreshK X X.K cl (.builtin "sorted") sortedN := by
  refine ⟨_, cr_sortedI, fun O H xs ds Q al r h => ?_⟩
  unfold sortedN at h
  split at h
  · next d hd =>
    split at hd
    · next zs =>
      split at hd
      · next ns hn =>
        cases hd
        obtain ⟨v, rfl, rv⟩ := r.one
        cases rv with
        | lst s r =>
          rw [of_ints? hn] at r
          rw [r.ints] at s
          refine ⟨_, ns, rfl, hide_le.seq s, fun ns' p pm pw np => ?_⟩
          have e : ns' = sortI ns := sorted_one _ _ (pm.trans (sortI_perm ns).symm) pw (sortI_sorted ns)
          subst e
          exact h p _ (same_upd np) np (own_new al np RpA.ofInts)
      · cases hd
    · cases hd
  · next hd =>
    split at hd
    · split at hd <;> cases hd
    · cases hd
  · exact h.elim
end
end Dt
namespace Dt
open L2 PySem PySem.Spec PyProof.Rows
/-! ### own dicts -/
def kD : D → Option Key
  | .int i => some (.inl i)
  | .str x => some (.inr x)
  | _ => none
theorem kD_rp {K : PySem.W.Frag} {cl : Cl} {H : Hp} {v : V} {d : D} {k : Key} (r : Rp K cl H v d) (h : kD d = some k) : v = kV k := by
  cases r with
  | int i => cases h; rfl
  | str x => cases h; rfl
  | _ => cases h
def hasK (k : Key) (ks : List Key) : Bool := ks.any fun k0 => decide (k0 = k)
def repK (k : Key) (d : D) : List Key → List D → List D
  | k0 :: ks, d0 :: ds => (if k0 = k then d else d0) :: repK k d ks ds
  | _, _ => []
def putKs (k : Key) (d : D) (ks : List Key) (ds : List D) : List Key × List D := if hasK k ks = true then (ks, repK k d ks ds) else (ks ++ [k], ds ++ [d])
def dDic0 : S → M (D × S) := fun s => ok (.dic [] [], s)
def sDPut (i : Nat) (fk f : S → M (D × S)) : S → M Out := fun s => bd (f s) fun p => match ownD p.2[i]? with
  | some (.dic _ _) => bd (fk p.2) fun q => match ownD q.2[i]?, kD q.1 with
    | some (.dic ks ds), some k => if ks.length < sizeLine then ok (.nx (putD q.2 i (.dic (putKs k p.1 ks ds).1 (putKs k p.1 ks ds).2))) else none
    | _, _ => none
  | _ => none
def dInDic (i : Nat) (fk : S → M (D × S)) : S → M (D × S) := fun s => bd (fk s) fun q => match ownD q.2[i]?, kD q.1 with
  | some (.dic ks _), some k => ok (.bl (hasK k ks), q.2)
  | _, _ => none
def dNinDic (i : Nat) (fk : S → M (D × S)) : S → M (D × S) := fun s => bd (fk s) fun q => match ownD q.2[i]?, kD q.1 with
  | some (.dic ks _), some k => ok (.bl (!hasK k ks), q.2)
  | _, _ => none
theorem any_hasK (k : Key) (kvs : List (Key × V)) : (kvs.any fun kv => decide (kv.1 = k)) = hasK k (kvs.map (·.1)) := by
  unfold hasK
  rw [List.any_map]
  rfl
theorem rp_repK {K : PySem.W.Frag} {cl : Cl} {H : Hp} {k : Key} {v : V} {d : D} (rv : Rp K cl H v d) : ∀ (kvs : List (Key × V)) (ds : List D), RpA K cl H (kvs.map (·.2)) ds →
    (kvs.map fun kv => if kv.1 = k then (kv.1, v) else kv).map (·.1) = kvs.map (·.1) ∧ RpA K cl H ((kvs.map fun kv => if kv.1 = k then (kv.1, v) else kv).map (·.2)) (repK k d (kvs.map (·.1)) ds)
  | [], ds, r => by
    cases r
    exact ⟨rfl, .nil⟩
  | p :: kvs, ds, r => by
    cases r with
    | cons r1 r2 =>
      obtain ⟨i1, i2⟩ := rp_repK rv kvs _ r2
      by_cases e : p.1 = k
      · simp only [List.map_cons, if_pos e, repK]
        exact ⟨by rw [i1], .cons rv i2⟩
      · simp only [List.map_cons, if_neg e, repK]
        exact ⟨by rw [i1], .cons r1 i2⟩
theorem rp_put {K : PySem.W.Frag} {cl : Cl} {H : Hp} {k : Key} {v : V} {d : D} (rv : Rp K cl H v d) (kvs : List (Key × V)) (ds : List D) (r : RpA K cl H (kvs.map (·.2)) ds) :
    (putK kvs k v).map (·.1) = (putKs k d (kvs.map (·.1)) ds).1 ∧ RpA K cl H ((putK kvs k v).map (·.2)) (putKs k d (kvs.map (·.1)) ds).2 := by
  unfold putK putKs
  rw [any_hasK]
  split
  · exact rp_repK rv kvs ds r
  · rw [List.map_append, List.map_append]
    exact ⟨rfl, r.append (.cons rv .nil)⟩
section
variable {X : Cx} {K : PySem.W.Frag} {cl : Cl} {wx : WX} {pos : Pos} {w : Wf} {L : List Addr} {sd : S} {σ : L2.St} {H : Hp} {f fk : S → M (D × S)} {e ke : Expr}
theorem f_dic0 : PE X (.Dict [] [] pos) (TFof K cl wx dDic0) := by
  refine iE pe_dnewK ?_
  rintro σ H Q ⟨w, L, sd, W, h⟩
  intro p np
  have sm := same_upd (o := .dK []) np
  have st2 : Step w L H (p :: L) (upd H p (.dK [])) := ⟨(Step.of_same (w := w) (L := L) sm).keep, (Step.of_same (w := w) (L := L) sm).alv, fun a ha => by
    (rcases List.mem_cons.mp ha with rfl | ha)
    · exact .inr np
    · exact .inl ha⟩
  exact h p _ st2 (W.new_ne np) (W.ext sm) (W.made sm np (by rw [upd_same]; simp)) ⟨[], upd_same, rfl, .nil⟩
end
section
variable {X : Cx} {cl : Cl} {wx : WX} {pos : Pos} {w : Wf} {L : List Addr} {sd : S} {σ : L2.St} {H : Hp} {f fk : S → M (D × S)} {e ke : Expr}
/-- d[k] = e -/
theorem s_dput (hu : X.A.units + 1 < cLine) (i : Nat) {x : Str} {p0 spos : Pos} (he : PE X e (TEof X.K cl wx f)) (hk : PE X ke (TEof X.K cl wx fk)) (hN : X.N[i]? = some x := by rfl) (hv : Vis X.env.scope x := by first | exact Or.inl rfl | exact Or.inr (Or.inl rfl) | exact Or.inr (Or.inr rfl))
    (hd : (x == ("__debug__" : Str)) = false := by decide) (hcd : (x == ("__classdict__" : Str)) = false := by decide) (hs : swapsWith e (some (.Subscript (.Name x p0) ke spos)) pos.line X.env = pure false := by rfl) :
    PS X (.Assign [.Subscript (.Name x p0) ke spos] e pos) (TSof X.K cl wx [] (sDPut i fk f)) := by
  refine iS (ps_dput hu (pe_var hN hv hd hcd) hk he hs) ?_
  rintro E σ H ⟨w, L, sd, W, h⟩
  refine ⟨w, L, sd, W, PostE.bd botS h fun r s1 h v H1 st1 W1 rr => ?_⟩
  dsimp only at h
  split at h
  · next ks0 ds0 e0 =>
    obtain ⟨a, q1, q2, q3⟩ := W1.atD e0
    refine ⟨.ref a, q1, w, L, s1, W1, PostE.bd botS h fun k s2 h u H2 st2 W2 rk => ?_⟩
    dsimp only at h
    split at h
    · next ks ds k' e1 e2 =>
      obtain ⟨a', p1, p2, p3⟩ := W2.atD e1
      rw [q1] at p1
      cases p1
      have hal := p3.some
      obtain ⟨kvs, g1, g2, g3⟩ := p3
      subst g2
      split at h
      · next c =>
        obtain ⟨z1, z2⟩ := rp_put (k := k') (rr.mono (st2.sn W2)) kvs ds g3
        have hin : a ∈ L ++ w.O0 := by
          rcases p2 with z | z
          · (exact List.mem_append_left _ z)
          · exact List.mem_append_right _ (W.sub a z.2)
        obtain ⟨W3, st3⟩ := W2.wrote (H' := upd H2 a (.dK (putK kvs k' v))) (d1 := .dic (putKs k' r (kvs.map (·.1)) ds).1 (putKs k' r (kvs.map (·.1)) ds).2) e1 q1 p2 hal (fun b o n q => by rw [upd_ne n]; exact q) ⟨_, upd_same, z1, by rw [hide_in hin]; exact z2⟩
        refine ⟨a, _, rfl, ?_, h L σ _ ((st1.trans st2).trans st3) W3 .refl⟩
        rw [kD_rp rk e2]
        exact DPut.k g1 (by simpa using c)
      · exact h.elim
    · exact h.elim
  · exact h.elim
theorem in_dic_read (i : Nat) (neg : Bool) {g : List Key → Key → Bool} (hg : ∀ (kvs : List (Key × V)) k, g (kvs.map (·.1)) k = (if neg then !(valV kvs k).isSome else (valV kvs k).isSome))
    {σ : L2.St} {H : Hp} {Q : VK} {x : Str} {td : TE} (htd : ∀ a H', σ[i]? = some (some (.ref a)) → ∀ C : VK, C (.ref a) H' → td σ H' C)
    (h : TEof X.K cl wx (fun s => bd (fk s) fun q => match ownD q.2[i]?, kD q.1 with
      | some (.dic ks _), some k => ok (.bl (g ks k), q.2)
      | _, _ => none) σ H Q) : TEof X.K cl wx fk σ H fun y H1 => td σ H1 fun x H2 => ∃ a o, x = .ref a ∧ DGet H2 a y o ∧ Q (.bl (if neg then !o.isSome else o.isSome)) H2 := by
  obtain ⟨w, L, sd, W, h⟩ := h
  refine ⟨w, L, sd, W, PostE.bd botE h fun k s1 h u H1 st1 W1 rk => ?_⟩
  dsimp only at h
  split at h
  · next ks ds k' e1 e2 =>
    obtain ⟨a, p1, p2, kvs, g1, g2, g3⟩ := W1.atD e1
    subst g2
    refine htd a H1 p1 _ ⟨a, valV kvs k', rfl, ?_, ?_⟩
    · rw [kD_rp rk e2]
      exact DGet.k g1
    · rw [← hg kvs k']
      exact h _ H1 st1 W1 (.bl _)
  · exact h.elim
theorem valV_has (kvs : List (Key × V)) (k : Key) : (valV kvs k).isSome = hasK k (kvs.map (·.1)) := by
  rw [← valV_any, any_hasK]
theorem pc_inDic (hu : X.A.units + 1 < cLine) (i : Nat) {x : Str} {p0 : Pos} (hk : PE X ke (TEof X.K cl wx fk)) (hN : X.N[i]? = some x := by rfl) (hv : Vis X.env.scope x := by first | exact Or.inl rfl | exact Or.inr (Or.inl rfl) | exact Or.inr (Or.inr rfl))
    (hd : (x == ("__debug__" : Str)) = false := by decide) (hcd : (x == ("__classdict__" : Str)) = false := by decide) : PC X .In ke (.Name x p0) (TEof X.K cl wx (dInDic i fk)) := by
  have h1 := pc_din hu hk (pe_var (pos := p0) hN hv hd hcd)
  refine ⟨fun pins s σ H Q I h => h1.run pins s σ H Q I ?_⟩
  exact in_dic_read (X := X) (x := x) i false (g := fun ks k => hasK k ks) (fun kvs k => (valV_has kvs k).symm) (fun a H' e C c => ⟨_, e, c⟩) h
theorem pc_ninDic (hu : X.A.units + 1 < cLine) (i : Nat) {x : Str} {p0 : Pos} (hk : PE X ke (TEof X.K cl wx fk)) (hN : X.N[i]? = some x := by rfl) (hv : Vis X.env.scope x := by first | exact Or.inl rfl | exact Or.inr (Or.inl rfl) | exact Or.inr (Or.inr rfl))
    (hd : (x == ("__debug__" : Str)) = false := by decide) (hcd : (x == ("__classdict__" : Str)) = false := by decide) : PC X .NotIn ke (.Name x p0) (TEof X.K cl wx (dNinDic i fk)) := by
  have h1 := pc_dnotin hu hk (pe_var (pos := p0) hN hv hd hcd)
  refine ⟨fun pins s σ H Q I h => h1.run pins s σ H Q I ?_⟩
  exact in_dic_read (X := X) (x := x) i true (g := fun ks k => !hasK k ks) (fun kvs k => by rw [if_pos rfl, valV_has]) (fun a H' e C c => ⟨_, e, c⟩) h
theorem d_inDic (hu : X.A.units + 1 < cLine) (i : Nat) {x : Str} {p0 : Pos} (hk : PE X ke (TEof X.K cl wx fk)) (hN : X.N[i]? = some x := by rfl) (hv : Vis X.env.scope x := by first | exact Or.inl rfl | exact Or.inr (Or.inl rfl) | exact Or.inr (Or.inr rfl))
    (hd : (x == ("__debug__" : Str)) = false := by decide) (hcd : (x == ("__classdict__" : Str)) = false := by decide) (hb : behindInMarks .In (.Name x p0) = false := by rfl) : PE X (.Compare ke [.In] [.Name x p0] pos) (TEof X.K cl wx (dInDic i fk)) := pe_cmp (pc_inDic hu i hk hN hv hd hcd) hb
theorem d_ninDic (hu : X.A.units + 1 < cLine) (i : Nat) {x : Str} {p0 : Pos} (hk : PE X ke (TEof X.K cl wx fk)) (hN : X.N[i]? = some x := by rfl) (hv : Vis X.env.scope x := by first | exact Or.inl rfl | exact Or.inr (Or.inl rfl) | exact Or.inr (Or.inr rfl))
    (hd : (x == ("__debug__" : Str)) = false := by decide) (hcd : (x == ("__classdict__" : Str)) = false := by decide) (hb : behindInMarks .NotIn (.Name x p0) = false := by rfl) : PE X (.Compare ke [.NotIn] [.Name x p0] pos) (TEof X.K cl wx (dNinDic i fk)) := pe_cmp (pc_ninDic hu i hk hN hv hd hcd) hb
end
/-! ### for over an own list, which stays as long as it is -/
def forO (i n : Nat) (T : D → S → M S) (F : S → M Out) : Nat → S → M Out
  | 0, s => match ownL s[i]? with
    | some ds => if ds.length = n then ok (.nx s) else none
    | none => none
  | k + 1, s => match ownL s[i]? with
    | some ds => if ds.length = n then (match ds[n - (k + 1)]? with
      | some d => bd (T d s) fun s1 => bd (F s1) fun o => match o with
        | .nx s2 => forO i n T F k s2
        | .ct s2 => forO i n T F k s2
        | .bk s2 => ok (.nx s2)
        | o => ok o
      | none => none) else none
    | none => none
def sForO (i : Nat) (T : D → S → M S) (F : S → M Out) : S → M Out := fun s => match ownL s[i]? with
  | some ds => forO i ds.length T F ds.length s
  | none => none
section
variable {X : Cx} {cl : Cl} {wx : WX} {pos : Pos} {body : List Stmt} {ts us : List Nat} {F : S → M Out} {T : D → S → M S} {tg : Expr}
theorem s_forO [nt : NoX T] (hp : PassesOwn (model X.prog X.w) X.A X.env X.xe) (i : Nat) {x : Str} {p0 : Pos} (hg : PG X tg (TGof X.K cl wx us T)) (hb : PSs X body (TSof X.K cl wx ts F)) (hN : X.N[i]? = some x := by rfl) (hv : Vis X.env.scope x := by first | exact Or.inl rfl | exact Or.inr (Or.inl rfl) | exact Or.inr (Or.inr rfl))
    (hd : (x == ("__debug__" : Str)) = false := by decide) (hcd : (x == ("__classdict__" : Str)) = false := by decide) (hc : X.calm = true := by rfl) (hs : ∀ v, foldedSetIterable (.Name x p0) X.env v = pure v := by intro _; rfl) (hni : i ∉ us ++ ts := by decide) :
    PS X (.For tg (.Name x p0) body [] pos) (TSof X.K cl wx (us ++ ts) (sForO i T F)) := by
  refine iS (ps_for hp hc (pi_list (pe_var hN hv hd hcd)) hg hb hs) ?_
  rintro E σ0 H0 ⟨w, L0, sd, W, h⟩
  unfold sForO at h
  split at h
  · next ds0 e0 =>
    obtain ⟨a, xs0, q1, q2, q3, q4⟩ := W.at e0
    refine ⟨.ref a, q1, a, rfl, ⟨xs0, SqL.of q3⟩, ?_⟩
    generalize em : forO i ds0.length T F ds0.length sd = m at h
    match m, h with
    | none, h => exact h.elim
    | some o, h =>
      have n0 := ds0.length
      refine ⟨fun j m σ H => m = ds0.length - j ∧ j ≤ ds0.length ∧ ∃ L s, Wl X.K cl w L s σ H ∧ Step w L0 H0 L H ∧ Agree (us ++ ts) σ0 σ ∧ forO i ds0.length T F (ds0.length - j) s = some o, ⟨ds0.length, by omega, Nat.zero_le _, L0, sd, W, .refl, .refl, by rw [Nat.sub_zero]; exact em⟩, ?_⟩
      rintro j m σ H ⟨rfl, hj, L, s, Ws, st, ag, hm⟩
      have hσ : ∀ {σ'}, Agree (us ++ ts) σ0 σ' → σ'[i]? = some (some (.ref a)) := fun q => (q.out i hni).trans q1
      by_cases hlt : j < ds0.length
      · obtain ⟨k, hk⟩ : ∃ k, ds0.length - j = k + 1 := ⟨ds0.length - j - 1, by omega⟩
        rw [hk, forO] at hm
        split at hm
        · next ds e1 =>
          split at hm
          · next el =>
            have ej : ds0.length - (k + 1) = j := by omega
            rw [ej] at hm
            obtain ⟨a', xs, p1, p2, p3, p4⟩ := Ws.at e1
            rw [hσ ag] at p1
            cases p1
            split at hm
            · next d hd =>
              obtain ⟨v, g1, g2⟩ := p4.get j hd
              refine .inr ⟨⟨xs, v, SqL.of p3, g1⟩, fun σ' H' => ∃ L s, Wl X.K cl w L s σ' H' ∧ Step w L0 H0 L H' ∧ Agree (us ++ ts) σ0 σ' ∧ forO i ds0.length T F (ds0.length - (j + 1)) s = some o, fun σ' H' q => ⟨ds0.length - (j + 1), by omega, rfl, hlt, q⟩, fun x H2 hy => ?_⟩
              obtain ⟨rfl, hy⟩ := hy
              have hx := hy xs (SqL.of p3)
              rw [g1] at hx
              cases hx
              refine ⟨w, L, s, d, Ws, g2, ?_⟩
              have ek : ds0.length - (j + 1) = k := by omega
              rw [ek]
              generalize eT : T d s = mT at hm
              match mT, hm with
              | none, hm => cases hm
              | some (.ex _ _), hm => exact (nt.no _ _ _ _ eT).elim
              | some (.ok s3), hm =>
                intro σ3 H3 st3 W3 ag3
                refine ⟨w, L, s3, W3, ?_⟩
                have st4 := st.trans st3
                have ag4 : ∀ {σ'}, Agree ts σ3 σ' → Agree (us ++ ts) σ0 σ' := fun q => (ag.trans (ag3.trans q)).le fun i hi => (List.mem_append.mp hi).elim id id
                dsimp only [bd] at hm
                match (F s3 : M Out), hm with
                | none, hm => cases hm
                | some (.ex _ _), hm => cases hm; exact h
                | some (.ok (.nx s4)), hm => exact fun L' σ' H' a b q => ⟨L', s4, b, st4.trans a, ag4 q, hm⟩
                | some (.ok (.ct s4)), hm => exact fun L' σ' H' a b q => ⟨L', s4, b, st4.trans a, ag4 q, hm⟩
                | some (.ok (.bk s4)), hm => cases hm; exact fun L' σ' H' a b q => h L' σ' H' (st4.trans a) b (ag4 q)
                | some (.ok (.rt d s4)), hm => cases hm; exact fun L' σ' H' v a b q => h L' σ' H' v (st4.trans a) b q
                | some (.ok (.rf d s4)), hm => cases hm; exact fun L' σ' H' v a b q r t => h L' σ' H' v (st4.trans a) b q r t
            · cases hm
          · cases hm
        · cases hm
      · have ej : j = ds0.length := by omega
        subst ej
        rw [Nat.sub_self, forO] at hm
        split at hm
        · next ds e1 =>
          split at hm
          · next el =>
            obtain ⟨a', xs, p1, p2, p3, p4⟩ := Ws.at e1
            rw [hσ ag] at p1
            cases p1
            cases hm
            exact .inl ⟨⟨xs, SqL.of p3, by rw [p4.len, el]; exact Nat.le_refl _⟩, h L σ H st Ws ag⟩
          · cases hm
        · cases hm
  · exact h.elim
end
end Dt
namespace Dt
open L2 PySem PySem.Spec PyProof.Rows
/-! ### the head's facts with defs of classes -/
/-- where a def stands: in the module, in a class, behind a property, behind a staticmethod or classmethod -/
inductive At where
  | fn (x : Str)
  | meth (C m : Str)
  | prop (C m : Str)
  | stat (C m : Str)
  | clsm (C m : Str)
def behind (K : PySem.W.Frag) (a : Addr) (ty : String) : Addr := match PySem.W.recIn K a ty with
  | some (.ref g :: _) => g
  | _ => 0
def At.adr (K : PySem.W.Frag) : At → Addr
  | .fn x => He.ga K x
  | .meth C m => He.ma K (He.ga K C) m
  | .prop C m => behind K (He.ma K (He.ga K C) m) "property"
  | .stat C m => behind K (He.ma K (He.ga K C) m) "staticmethod"
  | .clsm C m => behind K (He.ma K (He.ga K C) m) "classmethod"
def isBehind (K : PySem.W.Frag) (a : Addr) (ty : String) : Bool := match PySem.W.recIn K a ty with
  | some (.ref _ :: _) => true
  | _ => false
theorem behind_ok {K : PySem.W.Frag} {a : Addr} {ty : String} (h : isBehind K a ty = true) : ∃ rest, PySem.W.recIn K a ty = some (.ref (behind K a ty) :: rest) := by
  unfold isBehind at h
  split at h
  · next g rest e =>
    refine ⟨rest, ?_⟩
    unfold behind
    rw [e]
  · cases h
def At.ok (K : PySem.W.Frag) : At → Bool
  | .fn x => He.eqO (PySem.W.nsIn K mainGlobals x) (some (some (.ref (He.ga K x))))
  | .meth C m => (He.Fa.meth C m).ok K
  | .prop C m => He.eqO (PySem.W.findIn K (.ref (He.ga K C)) m) (some (some (.ref (He.ma K (He.ga K C) m)))) && (He.eqO (PySem.W.specialIn K (.ref (He.ma K (He.ga K C) m)) "__get__") (some (some (.builtin "property.__get__"))) &&
      (decide (PySem.W.takesIn K (.ref (He.ma K (He.ga K C) m)) = some true) && isBehind K (He.ma K (He.ga K C) m) "property"))
  | .stat C m => isBehind K (He.ma K (He.ga K C) m) "staticmethod"
  | .clsm C m => isBehind K (He.ma K (He.ga K C) m) "classmethod"
theorem prop_ok {K : PySem.W.Frag} {C m : Str} (h : (At.prop C m).ok K = true) : PropOf K (He.ga K C) m (He.ma K (He.ga K C) m) ((At.prop C m).adr K) := by
  obtain ⟨h1, h⟩ := He.ba h
  obtain ⟨h2, h⟩ := He.ba h
  obtain ⟨h3, h4⟩ := He.ba h
  exact ⟨He.eqO_ok h1, He.eqO_ok h2, of_decide_eq_true h3, behind_ok h4⟩
/-- one def -/
structure DefC where
  at_ : At
  name : Str
  qual : Str
  params : Arguments
  body : List Stmt
  scope : Scope
  dfl : List He.Dv := []
  kwd : List (Str × He.Dv) := []
def DefC.adr (K : PySem.W.Frag) (d : DefC) : Addr := d.at_.adr K
def DefC.dvs (K : PySem.W.Frag) (d : DefC) : List V := d.dfl.map (He.Dv.v K)
def DefC.kws (K : PySem.W.Frag) (d : DefC) : List (Str × V) := d.kwd.map fun q => (q.1, q.2.v K)
/-- what is read of a def's function object -/
def seen (K : PySem.W.Frag) (a : Addr) : He.FnW := (K.lookup a).bind fun o => match o.data with
  | .func fd => some (fd.name, fd.qualname, fd.params, fd.body, fd.scope, fd.globals, fd.closure, fd.builtins)
  | _ => none
def DefC.val (d : DefC) : He.FnW := some (d.name, d.qual, d.params, .stmts d.body, d.scope, mainGlobals, [], builtinsNs)
def DefC.ok (K : PySem.W.Frag) (d : DefC) : Bool := d.at_.ok K && (PySem.W.keepIn K (.ref (d.adr K)) && (match K.lookup (d.adr K) with
  | some o =>
        (match o.data with
    | .func fd => PySem.W.codeIn K fd.code d.qual && (He.dflB K fd.defaults (d.dvs K) && He.kwdB K fd.kwdefaults (d.kws K))
    | _ => false)
  | none => false))
theorem DefC.funD {K : PySem.W.Frag} {d : DefC} (e : seen K (d.adr K) = d.val) (c : d.ok K = true) : ∃ fd, FunD K d.name d.qual d.params d.body d.scope (d.dvs K) (d.kws K) (d.adr K) fd := by
  obtain ⟨_, c⟩ := He.ba c
  obtain ⟨kp, c⟩ := He.ba c
  unfold seen at e
  cases q : K.lookup (d.adr K) with
  | none => rw [q] at c; cases c
  | some o =>
    rw [q] at c e
    obtain ⟨oc, od, dt, osl⟩ := o
    cases dt with
    | func fd =>
      obtain ⟨a1, a2, a3, a4, a5, a6, a7, b1, b2, b3, b4, b5, b6, b7, a8⟩ := fd
      have e : (some (a1, a2, a3, a4, a5, a6, a7, a8) : He.FnW) = some (d.name, d.qual, d.params, .stmts d.body, d.scope, mainGlobals, [], builtinsNs) := e
      injection e with e
      simp only [Prod.mk.injEq] at e
      obtain ⟨rfl, rfl, rfl, rfl, rfl, rfl, rfl, rfl⟩ := e
      obtain ⟨k1, k⟩ := He.ba c
      obtain ⟨k2, k3⟩ := He.ba k
      exact ⟨_, ⟨oc, od, b1, b2, b3, b4, b5, b6, b7, osl, rfl, q, k1, He.dflB_ok k2, He.kwdB_ok k3⟩, kp⟩
    | _ => cases c
abbrev AlC : Type := Bool × List He.FnW
def obsC (fa : List He.Fa) (fn : List DefC) (ex : PySem.W.Frag → Bool) (K : PySem.W.Frag) : AlC := ((fa.all fun f => f.ok K) && ((fn.all fun d => d.ok K) && ex K), fn.map fun d => seen K (d.adr K))
def valC (fn : List DefC) : AlC := (true, fn.map DefC.val)
def SaysC (fa : List He.Fa) (fn : List DefC) (ex : PySem.W.Frag → Bool) (K : PySem.W.Frag) : Prop := obsC fa fn ex K = valC fn
def obsCG (n : Nat) (fa : List He.Fa) (fn : List DefC) (ex : PySem.W.Frag → Bool) (g : Addr → Option Obj) : AlC := obsC fa fn ex (He.frG g (He.asD g n))
def hookC (n : Nat) (fa : List He.Fa) (fn : List DefC) (ex : PySem.W.Frag → Bool) : PySem.W.Hook where
  α := AlC
  obs := fun s => obsCG n fa fn ex s.heap.get?
  val := fun _ => valC fn
  says := fun _ h => ∃ K : PySem.W.Frag, K.In h ∧ SaysC fa fn ex K
  of := fun _ _ e => ⟨_, He.frG_in, e⟩
  keeps := fun _ _ _ ⟨K, hK, c0⟩ ks => ⟨K, PySem.W.Frag.In.keeps hK ks, c0⟩
theorem obsCG_eq {n : Nat} {fa : List He.Fa} {fn : List DefC} {ex : PySem.W.Frag → Bool} {g : Addr → Option Obj} {s : Shared} (h : ∀ a, g a = s.heap.get? a) : obsCG n fa fn ex g = (hookC n fa fn ex).obs s := by
  obtain rfl : g = s.heap.get? := funext h
  rfl
section
variable {fa : List He.Fa} {fn : List DefC} {ex : PySem.W.Frag → Bool} {K : PySem.W.Frag}
theorem SaysC.b (c : SaysC fa fn ex K) : ((fa.all fun f => f.ok K) && ((fn.all fun d => d.ok K) && ex K)) = true := congrArg (fun z : AlC => z.1) c
theorem SaysC.fact (c : SaysC fa fn ex K) (i : Nat) {f : He.Fa} (h : fa[i]? = some f := by rfl) : f.ok K = true := List.all_eq_true.mp (He.ba c.b).1 f (List.mem_of_getElem? h)
theorem SaysC.facts (c : SaysC fa fn ex K) {f : He.Fa} (h : f ∈ fa) : f.ok K = true := List.all_eq_true.mp (He.ba c.b).1 f h
theorem SaysC.more (c : SaysC fa fn ex K) : ex K = true := (He.ba (He.ba c.b).2).2
theorem SaysC.ok (c : SaysC fa fn ex K) (i : Nat) {d : DefC} (h : fn[i]? = some d := by rfl) : d.ok K = true := List.all_eq_true.mp (He.ba (He.ba c.b).2).1 d (List.mem_of_getElem? h)
theorem SaysC.at_ (c : SaysC fa fn ex K) (i : Nat) {d : DefC} (h : fn[i]? = some d := by rfl) : d.at_.ok K = true := (He.ba (c.ok i h)).1
theorem SaysC.def_ (c : SaysC fa fn ex K) (i : Nat) {d : DefC} (h : fn[i]? = some d := by rfl) : ∃ fd, FunD K d.name d.qual d.params d.body d.scope (d.dvs K) (d.kws K) (d.adr K) fd := by
  have e : fn.map (fun d => seen K (d.adr K)) = fn.map DefC.val := congrArg (fun z : AlC => z.2) c
  have e2 : (fn.map fun d => seen K (d.adr K))[i]? = (fn.map DefC.val)[i]? := by rw [e]
  (rw [List.getElem?_map, List.getElem?_map, h] at e2)
  exact DefC.funD (Option.some.inj e2) (c.ok i h)
end
/-- a class's facts in a list of facts -/
theorem clsD_of {cl : Cl} {K : PySem.W.Frag} {c : Str} {names : List Str} (h : cl c = some (He.ga K c, names)) (hc : (He.Fa.cls c).ok K = true) (hn : ∀ f ∈ names, (He.Fa.noat c f).ok K = true) (nd : names.Nodup) : ClsD K cl c (He.ga K c) names :=
  ⟨h, He.cls_ok hc, fun f hf => He.noat_ok (hn f hf), nd⟩
end Dt
namespace Dt
open L2 PySem PySem.Spec PyProof.Rows
/-! ### sorted(set(xs)), ints -/
/-- an empty set as it is made -/
abbrev set0 (w : World) : Obj := { cls := .type "set", dict := none, data := .set #[] 0 (.fresh 0 0 (!w.params.followText "set-order")) }
section
variable {P : Program} {w : World} {A : Around} {E : Value
      → Shared → Prop} {s : Shared}
theorem set_of_list {l : Addr} {items : Array Value} (ns : List Int) {Q : Value → Shared → Prop} (hh : A.handled = none) (hl : s.heap.IsList l items) (hit : IntsAre items.toList ns) (hb : ns.length + 1 < scanBound)
    (h : ∀ (h' : Heap) (tk c : Nat), SetR w h' s.heap.objs.size (fun j => decide (j ∈ ns)) c
          → c ≤ ns.length → (∀ b o, s.heap.get? b = some o → h'.get? b = some o) → Q (.ref s.heap.objs.size) { s with heap := h', toks := tk }) :
    wpAny (model P w) A
          (call (.type "set") [.ref l]) Q E s := by
  have hisz
        : items.size = ns.length := by
    have q := IntsAre.length hit
    rwa [Array.length_toList] at q
  (obtain ⟨c, tl, hmro⟩ := F.called_set.mro)
  (have hmade := F.called_set.made)
  have hsub := F.called_set.sub
  (refine wpAny_call (codeAny_of_tree ?_))
  (show wpAny _ _ (callAny (.type "set") _) _ _ _)
  (refine wpAny_pure ⟨Code.quiet_builtin _ (by decide +kernel), codeAny_builtin F.entry_type_call ?_⟩)
  (rw [Around.under_plain (weight_type_call_type "set" [.ref l] []) rfl])
  (have h1 := F.called_set.notType)
  (have h2 := F.called_set.canCreate)
  (have hct := F.typeCall_set_1 (.ref l))
  repeat (any_goals
        (first | assumption | wp_step))
  refine codeAny_mono (code_set_led1 (.ref l) (E := E) (Q₁ := fun obj s₁ => obj = .ref s.heap.objs.size ∧ s₁ = { s with heap := s.heap.push (set0 w) }) ⟨rfl, rfl⟩) fun r s₁ hr => ?_
  match r, hr with
  | .error e, hr => exact hr
  | .ok .next, hr => exact hr.elim
  | .ok .brk, hr => exact hr.elim
  | .ok .cont, hr => exact hr.elim
  | .ok (.ret obj), ⟨e1, e2⟩ =>
    subst e1 e2
    have hS : (s.heap.push (set0 w)).get? s.heap.objs.size = some (set0 w) := Heap.get?_push_size _ rfl
    have hT : Shared.TypeIs { s with heap := s.heap.push (set0 w) } (.ref s.heap.objs.size) "set" := ⟨_, hS, rfl⟩
    (have hli := F.called_set.init.lookup)
    (have hbi := F.called_set.init.bind (.ref s.heap.objs.size))
    repeat (any_goals
          (first | assumption | wp_step))
    refine codeAny_mono
          (codeAny_call_builtin (R := wants (fun r s₂ => r = .none ∧ ∃ h' tk c, s₂ = { s with heap := h', toks := tk } ∧ SetR w h' s.heap.objs.size (fun j => decide (j ∈ ns)) c ∧ c ≤ ns.length ∧
        (∀ b o, s.heap.get? b = some o
              → h'.get? b = some o)) E) F.called_set.init.plain F.entry_set_init (check_set_init_1 hT ?_)) fun r₂ s₂ hr₂ => ?_
    · (obtain ⟨ol, hol, hcl, nl, hdl⟩ := hl)
      (obtain ⟨ocls, odict, odata, oslots⟩ := ol)
      simp only at hcl hdl
      subst hcl hdl
      have hol' : (s.heap.push (set0 w)).get? l = some { cls := .type "list", dict := odict, data := .seq items nl, slots := oslots } := Heap.get?_push_of_some _ hol
      have hsls := F.sub_list_set
      (have hslf := F.sub_list_frozenset)
      (have hne : (Value.type "list" == Value.type "dict") = false := by decide)
      have hl1 : (s.heap.push (set0 w)).IsList l items := ⟨_, hol', rfl, nl, rfl⟩
      (unfold Builtin.«set.__init__» noKeywords Builtin.Frozenset.updateFrom)
      generalize hPI : pyIter = PI
      wp_walk
      subst hPI
      refine wpAny_pyIter_list hl1 (wpAny_bind (wpAny_runValue ?_))
      (have hlS : l < s.heap.objs.size := Heap.lt_size hol)
      (have hh3 : A.in1.in1.in1.handled = none := by simp [hh])
      have hneI : l ≠ (s.heap.push (set0 w)).objs.size := by
        (rw [Heap.size_push]; exact Nat.ne_of_lt (Nat.lt_succ_of_lt hlS))
      have hSf : s.heap.objs.size ∉ [(s.heap.push (set0 w)).objs.size, l] := by
        rw [Heap.size_push]
        intro z
        (rcases List.mem_cons.mp z with z | z)
        · exact absurd z (Nat.ne_of_lt (Nat.lt_succ_self _))
        · have : s.heap.objs.size = l := by simpa using z
          exact absurd this (Nat.ne_of_gt hlS)
      have hval : ∀ (i : Nat) (v : Value), items[i]? = some v
            → ∃ k t, ns[i]? = some k ∧ v = .int k t := fun i v hv => by
        (have hi : i < ns.length := by rw [← hisz]; exact (Array.getElem?_eq_some_iff.mp hv).1)
        (obtain ⟨t, e⟩ := PyProof.Rows.IntsAre.int_at hit i v (by rw [Array.getElem?_toList]; exact hv))
        (refine ⟨ns[i], t, List.getElem?_eq_getElem hi, ?_⟩)
        (rw [e, List.getD_eq_getElem?_getD, List.getElem?_eq_getElem hi] <;> rfl)
      refine set_update_ints ((Walks.list hh3 _ l hneI items).toS) s.heap.objs.size hSf ns hisz hb hval (items.size - 0) 0 _ (by omega) (Nat.zero_le _) ⟨⟨_, Heap.get?_push_size _ rfl, rfl, rfl⟩, (hl1.push _)⟩ ?hS0 ?hR
      case hS0 => exact ⟨0, Nat.le_refl 0, setR_new_at (Heap.get?_push_of_some _ hS)⟩
      case hR =>
        intro s' c' hm hc' hS'
        (obtain ⟨h', g2, d', tk', os'⟩ := s')
        (have eg : g2 = s.gens := hm.gens)
        (have ed : d' = s.drawn := hm.drawn)
        have eo : os' = s.os := hm.os
        subst eg ed eo
        show wpAny _ _ _ _ _ _
        refine wpAny_pure ?_
        (show wpAny _ _ (ret Value.none) _ _ _)
        rw [hisz] at hc'
        (refine wpAny_pure ⟨rfl, h', tk', c', rfl, hS', hc', fun b o e => ?_⟩)
        (have hb0 : b < s.heap.objs.size := Heap.lt_size e)
        refine hm.heap b o (fun z => ?_) (Heap.get?_push_of_some _ (Heap.get?_push_of_some _ e))
        (rcases List.mem_cons.mp z with z | z)
        · exact absurd z (Nat.ne_of_lt hb0)
        · have : b = (s.heap.push (set0 w)).objs.size := by simpa using z
          rw [Heap.size_push] at this
          exact absurd this (Nat.ne_of_lt (Nat.lt_succ_of_lt hb0))
    · match r₂, hr₂ with
      | .error e, hr₂ => exact hr₂
      | .ok .next, hr₂ => exact hr₂.elim
      | .ok .brk, hr₂ => exact hr₂.elim
      | .ok .cont, hr₂ => exact hr₂.elim
      | .ok (.ret r), ⟨e1, h', tk, c', e2, hS', hc', hk'⟩ =>
        subst e1 e2
        repeat (any_goals
              (first | assumption | wp_step))
        exact h _ _ _ hS' hc' hk'
end
end Dt
namespace Dt
open L2 PySem PySem.Spec PyProof.Rows
/-- a set of these ints -/
def SetO (w : World) (a : Addr) (ns : List Int) : HO := .ext fun h => ∃ c, SetR w h a (fun j => decide (j ∈ ns)) c ∧ c ≤ ns.length
theorem setO_new {P : Program} {w : World} {H : Hp} {h : Heap} {a : Addr} {ns : List Int} {c : Nat} (R : SetR w h a (fun j => decide (j ∈ ns)) c) (hc : c ≤ ns.length) : ObjOk P w H h a (SetO w a ns) :=
  ⟨⟨c, R, hc⟩, (by obtain ⟨o, _, _, _, e, _⟩ := R; exact ⟨o, e⟩), fun h1 h2 ⟨c', R', hc'⟩ k => ⟨c', R'.at k, hc'⟩⟩
/-- without the same ones behind each other -/
def uniqI : List Int → List Int
  | [] => []
  | [i] => [i]
  | i :: j :: r => if i = j then uniqI (j :: r) else i :: uniqI (j :: r)
theorem uniqI_mem : ∀ (l : List Int) (k : Int), k ∈ uniqI l ↔ k ∈ l
  | [], k => by simp [uniqI]
  | [i], k => by simp [uniqI]
  | i :: j :: r, k => by
    have ih := uniqI_mem (j :: r) k
    unfold uniqI
    split
    · next e =>
      subst e
      rw [ih]
      simp
    · rw [List.mem_cons, ih, List.mem_cons (a := k) (b := i)]
theorem uniqI_lt : ∀ l : List Int, l.Pairwise (· ≤ ·) → (uniqI l).Pairwise (· < ·)
  | [], _ => by simp [uniqI]
  | [i], _ => by simp [uniqI]
  | i :: j :: r, h => by
    (obtain ⟨h1, h2⟩ := List.pairwise_cons.mp h)
    have ih := uniqI_lt (j :: r) h2
    unfold uniqI
    split
    · exact ih
    · next e =>
      refine List.pairwise_cons.mpr ⟨fun y hy => ?_, ih⟩
      have hy := (uniqI_mem _ _).mp hy
      have a := h1 j List.mem_cons_self
      (rcases List.mem_cons.mp hy with rfl | hy)
      · omega
      · have b := (List.pairwise_cons.mp h2).1 y hy
        omega
theorem strict_one : ∀ (l m : List Int), (∀ k, k ∈ l ↔ k ∈ m) → l.Pairwise (· < ·) → m.Pairwise (· < ·) → l = m
  | [], [], _, _, _ => rfl
  | [], j :: m, h, _, _ => absurd ((h j).mpr List.mem_cons_self) (by simp)
  | i :: l, [], h, _, _ => absurd ((h i).mp List.mem_cons_self) (by simp)
  | i :: l, j :: m, h, hl, hm => by
    obtain ⟨l1, l2⟩ := List.pairwise_cons.mp hl
    obtain ⟨m1, m2⟩ := List.pairwise_cons.mp hm
    have e : i = j := by
      have a : i ≤ j := by
        rcases List.mem_cons.mp ((h j).mpr List.mem_cons_self) with q | q
        · omega
        · exact Int.le_of_lt (l1 j q)
      have b : j ≤ i := by
        rcases List.mem_cons.mp ((h i).mp List.mem_cons_self) with q | q
        · omega
        · exact Int.le_of_lt (m1 i q)
      omega
    subst e
    have ht : ∀ k, k ∈ l ↔ k ∈ m := fun k => ⟨fun hk => by
      rcases List.mem_cons.mp ((h k).mp (List.mem_cons_of_mem _ hk)) with q | q
      · have := l1 k hk; omega
      · exact q, fun hk => by
      rcases List.mem_cons.mp ((h k).mpr (List.mem_cons_of_mem _ hk)) with q | q
      · have := m1 k hk; omega
      · exact q⟩
    rw [strict_one l m ht l2 m2]
def rSetI (K : PySem.W.Frag) (w : World) : List V → Hp → VK → Prop := fun xs H Q => ∃ (l : Addr) (ns : List Int), xs = [.ref l] ∧ SqL K H l (ns.map V.int) ∧ ns.length < 64 ∧ ∀ p, H p = none → Q (.ref p) (upd H p (SetO w p ns))
def rSortS (w : World) : List V → Hp → VK → Prop := fun xs H Q => ∃ (a : Addr) (ns : List Int), xs = [.ref a] ∧ H a = some (SetO w a ns) ∧ ns.length < 64 ∧ ∀ p, H p = none → Q (.ref p) (upd H p (.lst ((uniqI (sortI ns)).map V.int)))
section
variable {X : Cx}
theorem cr_setI (hc : X.calm = true) : CallR X (.type "set") (rSetI X.K X.w) := by
  (intro pins s σ H xs us Q I r h)
  obtain ⟨l, ns, rfl, hl, hf, q⟩ := h
  rw [Vals.ref1 r]
  (obtain ⟨its, rv, pl, hz⟩ := I.list hl)
  refine set_of_list (P := X.prog) (w := X.w) ns (I.ok.hd hc) pl.isList (by simpa using rv.ints) (by unfold scanBound; omega) fun h' tk c R hc k => ?_
  exact ⟨.ref s.heap.objs.size, upd H s.heap.objs.size (SetO X.w s.heap.objs.size ns), I.laid (t' := tk) k (Nat.le_refl _) (setO_new R hc), rfl, q _ (I.hok.fresh (Nat.le_refl _))⟩
theorem cr_sortS (hc : X.calm = true) : CallR X (.builtin "sorted") (rSortS X.w) := by
  (intro pins s σ H vs us Q I r h)
  obtain ⟨a, ns, rfl, ha, hf, q⟩ := h
  obtain ⟨c, R, hcl⟩ : ∃ c, SetR X.w s.heap a (fun j => decide (j ∈ ns)) c ∧ c ≤ ns.length := (I.hok a _ ha).1
  rw [Vals.ref1 r]
  refine sorted_set (P := X.prog) R (I.ok.hd hc) (by omega) fun s' p out c2 ns' k g o hp hout hi hs hm hlen => ?_
  have e : ns' = uniqI (sortI ns) := strict_one _ _ (fun k => by rw [hm k, uniqI_mem, (sortI_perm ns).mem_iff]; simp) hs (uniqI_lt _ (sortI_sorted ns))
  subst e
  have hlen2 : ((uniqI (sortI ns)).map V.int).length ≤ sizeLine := by rw [List.length_map, sizeLine_eq]; omega
  (have hn : H p = none := I.hok.fresh hp)
  have hv : ∀ {us : List Value} {ms : List Int}, IntsAre us ms → Vals (ms.map V.int) us := fun h => by
    induction h with
    | nil => exact .nil
    | cons _ _ _ ih => exact .cons ⟨_, rfl⟩ ih
  have J : Inv X pins σ (upd H p (.lst ((uniqI (sortI ns)).map V.int))) { s with heap := s'.heap, gens := s'.gens, drawn := s'.drawn, toks := s'.toks } :=
    I.call (ch := []) (Un.laid k hp hn) (I.hok.laid k hp ⟨hlen2, out.toList, c2, hv hi, hout⟩) (by rw [g]; exact I.bare) (fun _ z => nomatch z)
  have es' : s' = { s with heap := s'.heap, gens := s'.gens, drawn := s'.drawn, toks := s'.toks } := by
    cases s'
    cases s
    cases o
    rfl
  rw [es']
  exact ⟨.ref p, _, J, rfl, q p hn⟩
end
/-- sorted(set(xs)) -/
def dSortSet (fr : S → M (List D × S)) : S → M (D × S) := fun s => bd (fr s) fun p => match p.1 with
  | [.lst xs] => match ints? xs with
    | some ns => if ns.length < 64 then ok (.lst ((uniqI (sortI ns)).map D.int), p.2) else none
    | none => none
  | _ => none
section
variable {X : Cx} {cl : Cl} {wx : WX} {pos pos' p p' : Pos} {e : Expr} {fr : S → M (List D × S)}
theorem f_sortset (hc : X.calm = true) (hm : X.mg "sorted" = none) (hm2 : X.mg "set" = none) (ha : PA X [e] (TAof X.K cl wx fr)) (hg : Gl X "sorted" := by rfl) (hg2 : Gl X "set" := by rfl)
    (he : starEach [e] X.env = [(false, eval e X.env)] := by rfl) (he2 : starEach [.Call (.Name "set" p') [e] [] pos'] X.env = [(false, eval (.Call (.Name "set" p') [e] [] pos') X.env)] := by rfl) :
    PE X (.Call (.Name "sorted" p) [.Call (.Name "set" p') [e] [] pos'] [] pos) (TFof X.K cl wx (dSortSet fr)) := by
  have h1 : PE X (.Call (.Name "set" p') [e] [] pos') _ := pe_callTy (cr_setI hc) hg2 hm2 rfl ha (by decide) (by decide) he rfl
  refine iE (pe_callB (cr_sortS hc) hg hm rfl (pa_cons h1 pa_nil he2) (by decide) (by decide) he2 rfl) ?_
  rintro σ H Q ⟨w, L, sd, W, h⟩
  refine ⟨w, L, sd, W, PostA.bd botF h fun rs s1 h vs H1 st1 W1 rr => ?_⟩
  dsimp only at h
  split at h
  · next xs =>
    split at h
    · next ns hn =>
      split at h
      · next c =>
        obtain ⟨v, rfl, rv⟩ := rr.one
        cases rv with
        | lst s r =>
          rw [of_ints? hn] at r
          rw [r.ints] at s
          refine ⟨_, ns, rfl, hide_le.seq s, c, fun q nq => ⟨q, ns, rfl, upd_same, c, fun p np => ?_⟩⟩
          have sm1 := same_upd (o := SetO X.w q ns) nq
          have np1 : H1 p = none := by
            cases z : H1 p with
            | none => rfl
            | some o => rw [sm1 p o z] at np; cases np
          have W2 := W1.ext sm1
          have sm2 := same_upd (o := .lst ((uniqI (sortI ns)).map V.int)) np
          have sm : Same H1 _ := sm1.trans sm2
          have st2 : Step w L H1 (p :: L) (upd (upd H1 q (SetO X.w q ns)) p (.lst ((uniqI (sortI ns)).map V.int))) := ⟨fun b o _ _ e => sm b o e, (Step.of_same (w := w) (L := L) sm).alv, fun a ha => by
            (rcases List.mem_cons.mp ha with rfl | ha)
            · exact .inr np1
            · exact .inl ha⟩
          exact h p _ (st1.trans st2) (W1.new_ne np1) (W1.ext sm) (W1.made sm np1 (by rw [upd_same]; simp)) (own_new (O := L ++ w.O0) W2.alive np RpA.ofInts)
      · exact h.elim
    · exact h.elim
  · exact h.elim
end
end Dt
namespace Dt
open L2 PySem PySem.Spec PyProof.Rows
/-! ### x in xs, xs a list or a tuple of flat items -/
theorem scal_flat {K : PySem.W.Frag} {cl : Cl} {H : Hp} {v : V} {d : D} (r : Rp K cl H v d) (s : d.scal = true) : flatV v = true := by
  cases r <;> first | rfl | cases s
theorem scal_eq {K : PySem.W.Frag} {cl : Cl} {H : Hp} {v u : V} {d e : D} (r : Rp K cl H v d) (q : Rp K cl H u e) (s : d.scal = true) (t : e.scal = true) : eqV v u = PyData.eqv d.py e.py := by
  cases r <;> first | (cases s; done) | skip
  all_goals cases q <;> first | (cases t; done) | (simp [eqV, D.py, PyData.eqv])
theorem scals_flat {K : PySem.W.Frag} {cl : Cl} {H : Hp} : ∀ {vs : List V} {ds : List D}, RpA K cl H vs ds → ds.all D.scal = true → vs.all flatV = true
  | _, _, .nil, _ => rfl
  | _, _, .cons a r, h => by
    (rw [List.all_cons, Bool.and_eq_true] at h)
    rw [List.all_cons, scal_flat a h.1, scals_flat r h.2]
    rfl
theorem scals_in {K : PySem.W.Frag} {cl : Cl} {H : Hp} {v : V} {d : D} (rv : Rp K cl H v d) (sv : d.scal = true) : ∀ {vs : List V} {ds : List D}, RpA K cl H vs ds → ds.all D.scal = true → inV v vs = ((D.pys ds).any fun z => PyData.eqv z d.py)
  | _, _, .nil, _ => by rw [D.pys]; rfl
  | _, _, .cons a r, h => by
    (rw [List.all_cons, Bool.and_eq_true] at h)
    have ih := scals_in rv sv r h.2
    unfold inV at ih ⊢
    rw [D.pys, List.any_cons, List.any_cons, ih, scal_eq a rv h.1 sv]
def inA : Op2 := fun d e => match e with
  | .tup xs => if d.scal = true ∧ xs.all D.scal = true then ok (.bl ((D.pys xs).any fun z => PyData.eqv z d.py)) else none
  | e => inD d e
def ninA : Op2 := fun d e => match e with
  | .tup xs => if d.scal = true ∧ xs.all D.scal = true then ok (.bl (!(D.pys xs).any fun z => PyData.eqv z d.py)) else none
  | e => ninD d e
section
variable {X : Cx} {cl : Cl} {wx : WX} {K : PySem.W.Frag} {f : Value → Value → Sem Value} {r r' : R2}
theorem opR_or (h : OpR X f r) (h' : OpR X f r') : OpR X f (fun x y H Q => r x y H Q ∨ r' x y H Q) := fun pins s σ H x y v u Q I rx ry q => by
  rcases q with q | q
  · (exact h pins s σ H x y v u Q I rx ry q)
  · (exact h' pins s σ H x y v u Q I rx ry q)
theorem k_inA (hu : X.A.units + 65 < cLine) : OpK X X.K cl (compareOp .In) inA := by
  obtain ⟨r, h1, h2⟩ := (k_inD (cl := cl) hu).it
  refine ⟨_, opR_or h1 op_in_seq, fun O H x y d e Q al rx ry h => ?_⟩
  cases e with
  | tup xs =>
    dsimp only [inA] at h
    split at h
    · next c =>
      cases ry with
      | tup s rs =>
        refine .inr ⟨_, _, rfl, .inr (same_sqT hide_le s), scal_flat rx c.1, scals_flat rs c.2, ?_⟩
        rw [if_neg Bool.false_ne_true, scals_in rx c.1 rs c.2]
        exact h.now (.bl _)
    · exact h.elim
  | _ => exact .inl (h2 O H x y d _ Q al rx ry h)
theorem k_ninA (hu : X.A.units + 65 < cLine) : OpK X X.K cl (compareOp .NotIn) ninA := by
  obtain ⟨r, h1, h2⟩ := (k_ninD (cl := cl) hu).it
  refine ⟨_, opR_or h1 op_notIn_seq, fun O H x y d e Q al rx ry h => ?_⟩
  cases e with
  | tup xs =>
    dsimp only [ninA] at h
    split at h
    · next c =>
      cases ry with
      | tup s rs =>
        refine .inr ⟨_, _, rfl, .inr (same_sqT hide_le s), scal_flat rx c.1, scals_flat rs c.2, ?_⟩
        rw [if_pos rfl, scals_in rx c.1 rs c.2]
        exact h.now (.bl _)
    · exact h.elim
  | _ => exact .inl (h2 O H x y d _ Q al rx ry h)
theorem u1 {k : Nat} {A : Around} (r : Room k A) : A.units + 1 < cLine := by
  have := r.un
  omega
end
/-! ### tests -/
theorem tst_of_B {K : PySem.W.Frag} {cl : Cl} {wx : WX} {f : S → M (D × S)} : ∀ σ H Q, TTof K cl wx (dTst f) σ H Q → tB (TEof K cl wx f) σ H Q := by
  rintro σ H Q ⟨w, L, sd, W, h⟩
  refine ⟨w, L, sd, W, PostE.bd botT h fun r s1 h v H1 st1 W1 rr => ?_⟩
  cases r with
  | bl b =>
    cases rr
    exact ⟨b, rfl, h H1 st1 W1⟩
  | _ => exact h.elim
section
variable {X : Cx} {cl : Cl} {wx : WX} {pos : Pos} {fk : S → M (D × S)} {ke : Expr}
theorem t_inDic (hu : X.A.units + 1 < cLine) (i : Nat) {x : Str} {p0 : Pos} (hk : PE X ke (TEof X.K cl wx fk)) (hN : X.N[i]? = some x := by rfl) (hv : Vis X.env.scope x := by first | exact Or.inl rfl | exact Or.inr (Or.inl rfl) | exact Or.inr (Or.inr rfl))
    (hd : (x == ("__debug__" : Str)) = false := by decide) (hcd : (x == ("__classdict__" : Str)) = false := by decide) (hb : behindInMarks .In (.Name x p0) = false := by rfl) : PT X (.Compare ke [.In] [.Name x p0] pos) (TTof X.K cl wx (dTst (dInDic i fk))) := iT (pt_cmp (pc_inDic hu i hk hN hv hd hcd) hb) tst_of_B
theorem t_ninDic (hu : X.A.units + 1 < cLine) (i : Nat) {x : Str} {p0 : Pos} (hk : PE X ke (TEof X.K cl wx fk)) (hN : X.N[i]? = some x := by rfl) (hv : Vis X.env.scope x := by first | exact Or.inl rfl | exact Or.inr (Or.inl rfl) | exact Or.inr (Or.inr rfl))
    (hd : (x == ("__debug__" : Str)) = false := by decide) (hcd : (x == ("__classdict__" : Str)) = false := by decide) (hb : behindInMarks .NotIn (.Name x p0) = false := by rfl) : PT X (.Compare ke [.NotIn] [.Name x p0] pos) (TTof X.K cl wx (dTst (dNinDic i fk))) := iT (pt_cmp (pc_ninDic hu i hk hN hv hd hcd) hb) tst_of_B
end
section
variable {X : Cx} {K : PySem.W.Frag} {cl : Cl} {wx : WX} {pos : Pos} {a b c : Expr} {fa fb fc : S → M (D × S)} {g g' : Op2} {op op' : CmpOp}
theorem t_chain (ho : OpK X K cl (compareOp op) g) (ho' : OpK X K cl (compareOp op') g') (ha : PE X a (TEof K cl wx fa)) (hb : PE X b (TEof K cl wx fb)) (hc : PE X c (TEof K cl wx fc))
    (hm : lastMarks [op, op'] [b, c] = false := by with_unfolding_all rfl) : PT X (.Compare a [op, op'] [b, c] pos) (TTof K cl wx (dTst (dChain g g' fa fb fc))) := by
  obtain ⟨r, h1, h2⟩ := ho.it
  obtain ⟨r', h1', h2'⟩ := ho'.it
  refine iT (pt_chain h1 h1' ha hb hc hm) fun σ H Q h => ?_
  obtain ⟨w, L, sd, W, h⟩ := tst_of_B σ H Q h
  exact chain_read h2 h2' σ H _ ⟨w, L, sd, W, h⟩
end
/-! ### -a -/
def dNeg (f : S → M (D × S)) : S → M (D × S) := fun s => bd (f s) fun p => match p.1 with
  | .int i => ok (.int (-i), p.2)
  | _ => none
section
variable {X : Cx} {K : PySem.W.Frag} {cl : Cl} {wx : WX} {pos : Pos} {e : Expr} {f : S → M (D × S)}
theorem d_neg (he : PE X e (TEof K cl wx f)) : PE X (.UnaryOp .USub e pos) (TEof K cl wx (dNeg f)) := by
  refine iE (pe_un un_neg he) ?_
  rintro σ H Q ⟨w, L, sd, W, h0⟩
  refine ⟨w, L, sd, W, PostE.bd botE h0 fun r s1 h v H1 st1 W1 rr => ?_⟩
  cases r with
  | int i =>
    cases rr
    exact ⟨i, rfl, h _ H1 st1 W1 (.int _)⟩
  | _ => exact h.elim
end
end Dt
namespace Dt
open L2 PySem PySem.Spec PyProof.Rows
/-! ### range of any ints -/
theorem lr_owner : Manifest.owners.lookup (String.ofList ['r', 'o', 't', 'a', 'r', 'e', 't', 'i', '_', 'e', 'g', 'n', 'a', 'r', 'g', 'n', 'o', 'l'].reverse) = some Manifest.sig_longrange_iterator := by kernel_rfl
theorem lr_next : Slot "longrange_iterator" "__next__" "longrange_iterator.__next__" :=
  .of (owner := "longrange_iterator") (n := "__next__") (by rw [typeLookup_type, builtinLookup_eq_fast]; kernel_rfl) (by decide +kernel) (by decide +kernel) (by decide +kernel) (by first | exact .inl (by decide +kernel) | exact .inr (by decide +kernel)) (by rw [isSubtype_type]; kernel_rfl)
theorem lr_entry : entryFor table "longrange_iterator.__next__" = some Builtin.«longrange_iterator.__next__» := entryFor_of_tree (by kernel_rfl)
theorem lr_args (a : Value) : argsOk "longrange_iterator.__next__" ⟨[a], []⟩ := by
  unfold argsOk
  rw [signature?_of (id := "longrange_iterator.__next__") (n := ['_', '_', 't', 'x', 'e', 'n', '_', '_']) (o := ['r', 'o', 't', 'a', 'r', 'e', 't', 'i', '_', 'e', 'g', 'n', 'a', 'r', 'g', 'n', 'o', 'l']) (by kernel_rfl) lr_owner]
  kernel_rfl
abbrev IsLR (h : Heap) (it : Addr) (x left step : Int) : Prop := h.get? it = some { cls := .type "longrange_iterator", dict := none, data := .fields #[rawInt x, rawInt left, rawInt step], slots := #[] }
theorem lr_meets (it : Addr) (x left step : Int) (hc0 : ¬left ≤ 0) :
    Meets (Builtin.«longrange_iterator.__next__» ⟨[.ref it], []⟩) (fun _ R s => IsLR s.heap it x left step ∧ ∀ h', IsLR h' it (x + step) (left - 1) step → Heap.SameBut it s.heap h' → R (.ok (.ret (Value.int x s.toks))) { s with heap := h', toks := s.toks + 1 }) :=
  .of_wp fun prog0 w0 A0 R0 s h => by
    (obtain ⟨hp, g, d, tk, os⟩ := s)
    obtain ⟨hl, h⟩ := h
    wp_walk
    exact ⟨_, rfl, h _ (Heap.get?_update_self _ (Heap.get?_update_self _ hl rfl) rfl) ((Heap.SameBut.update ..).trans (Heap.SameBut.update ..))⟩
theorem lr_iter : Slot "longrange_iterator" "__iter__" "longrange_iterator.__iter__" :=
  .of (owner := "longrange_iterator") (n := "__iter__") (by rw [typeLookup_type, builtinLookup_eq_fast]; kernel_rfl) (by decide +kernel) (by decide +kernel) (by decide +kernel) (by first | exact .inl (by decide +kernel) | exact .inr (by decide +kernel)) (by rw [isSubtype_type]; kernel_rfl)
theorem lr_argsI (a : Value) : argsOk "longrange_iterator.__iter__" ⟨[a], []⟩ := by
  unfold argsOk
  rw [signature?_of (id := "longrange_iterator.__iter__") (n := ['_', '_', 'r', 'e', 't', 'i', '_', '_']) (o := ['r', 'o', 't', 'a', 'r', 'e', 't', 'i', '_', 'e', 'g', 'n', 'a', 'r', 'g', 'n', 'o', 'l']) (by kernel_rfl) lr_owner]
  kernel_rfl
theorem lr_entryI : entryFor table "longrange_iterator.__iter__" = some Builtin.«dict_keyiterator.__iter__» :=
  entryFor_alias
        (id' := "dict_keyiterator.__iter__") (by kernel_rfl) (by first | rfl | decide +kernel | (unfold String.splitOn; simp +decide [String.splitOnAux])) (by decide +kernel) (by kernel_rfl)
end Dt
namespace Dt
open L2 PySem PySem.Spec PyProof.Rows
theorem lr_stop (it : Addr) (x left step : Int) (hc0 : left ≤ 0) : ∀ {prog : Program} {w : World} {A : Around} {s : Shared} {Q : Option Value → Shared → Prop} {E : Value → Shared → Prop}, A.handled = none → IsLR s.heap it x left step →
    (∀ h', Heap.ExtBut it s.heap h' → Q none { s with heap := h' }) → wpAny (model prog w) A (pyNext (.ref it)) Q E s := by
  intro prog w A s Q E hh hit hQ
  (have hT : s.TypeIs (.ref it) "longrange_iterator" := ⟨_, hit, rfl⟩)
  unfold pyNext
  refine wpAny_bind (wpAny_attempt (wpAny_callSpecial?_slot (name := Str.ofString "__next__") hT lr_next (wpAny_call_entry lr_next hT lr_entry ?_ (lr_args _))))
  (obtain ⟨hp, g, d, tk, os⟩ := s)
  unfold Builtin.«longrange_iterator.__next__»
  repeat ((fail_if_success (with_reducible show wpAny _ _ (newExc _ _ >>= _) _ _ _)); first | rw [if_pos hc0] | wp_step)
  refine wpAny_bind ?_
  simp only [newExc, newTuple]
  (refine wpAny_bind (wpAny_newObj_type ?_ (by size_fits)))
  (refine wpAny_bind (m := firstArgMember _ _) (wpAny_of_eq (a := Value.none) (by first | rfl | (simp only [firstArgMember]; rfl)) ?_))
  (refine wpAny_newObj_type ?_ (by size_fits))
  simp only [raiseNew]
  (refine wpAny_bind (wpAny_bind (wpAny_handled ?_)))
  (rw [show A.in1.handled = none from hh])
  (refine wpAny_bind (wpAny_pure (wpAny_throw ?_)))
  (refine wpAny_bind (wpAny_isInstance (T := "StopIteration") (b := true) ⟨_, Heap.get?_push_size _ rfl, rfl⟩ isSubtype_stop ?_))
  exact wpAny_pure (hQ _ (((Heap.ExtBut.refl it hp).push _).push _))
theorem lr_item {it : Addr} {x left step : Int} {prog : Program} {w : World} {A : Around} {s : Shared} {Q : Option Value → Shared → Prop} {E : Value → Shared → Prop} (hit : IsLR s.heap it x left step) (hleft : 0 < left)
    (hQ : ∀ h', IsLR h' it (x + step) (left - 1) step → Heap.SameBut it s.heap h' → Q (some (.int x s.toks)) { s with heap := h', toks := s.toks + 1 }) : wpAny (model prog w) A (pyNext (.ref it)) Q E s := by
  (have hT : s.TypeIs (.ref it) "longrange_iterator" := ⟨_, hit, rfl⟩)
  unfold pyNext
  exact wpAny_bind (wpAny_attempt (wpAny_callSpecial?_slot (name := Str.ofString "__next__") hT lr_next
    (call_meets lr_next hT lr_entry (lr_args _) (lr_meets it x left step (by omega)) ⟨hit, fun h' a b => wpAny_pure (hQ h' a b)⟩)))
theorem lr_self {it : Addr} {x left step : Int} {prog : Program} {w : World} {A : Around} {s : Shared} {Q : Value → Shared → Prop} {E : Value → Shared → Prop} (hit : IsLR s.heap it x left step) (h : Q (.ref it) s) : wpAny (model prog w) A (pyIter (.ref it)) Q E s := by
  (have hT : s.TypeIs (.ref it) "longrange_iterator" := ⟨_, hit, rfl⟩)
  refine wpAny_pyIter_slot hT lr_iter (wpAny_call_entry lr_iter hT lr_entryI ?_ (lr_argsI _))
  (show wpAny _ _ (ret (.ref it)) _ _ s)
  exact wpAny_pure ⟨_, rfl, "longrange_iterator", _, hT, lr_next.lookup, h⟩
theorem turn_lr {P : Program} {w : World} {K : PySem.W.Frag} {tg : Expr} (it : Addr) (lo : Int) (n : Nat) : Turn P w K tg (Itr lo n) [it] it (fun i h => IsLR h it (lo + (i : Nat)) ((n : Int) - (i : Nat)) 1) where
  mem := by simp
  obj := fun i h st b hb => by
    obtain rfl : b = it := by simpa using hb
    exact ⟨_, st, fun v z => by
      (have z' : Data.fields _ = Data.cell v := z)
      cases z'⟩
  keep := fun i h h' st k => k it
        (by simp) _ st
  item := by
    (intro X hP hw hK hc i pins s σ H E I hf st hg)
    subst hP hw hK
    (obtain ⟨f0, f1, f2, f3, f4, f5⟩ := hf it (by simp))
    have hg : i < n := hg
    refine lr_item st (by omega) fun h' st' sb => ?_
    (have I1 : Inv X pins σ H { s with heap := h', toks := s.toks + 1 } := I.turned (fun b o hb e => (sb.2 b hb).trans e) f0 f1 f3 f4 f5)
    refine ⟨_, rfl, go_of (s := { s with heap := h', toks := s.toks + 1 }) (n := "longrange_iterator") st' rfl rfl (by decide) ⟨.int (lo + i), H, I1, ⟨_, rfl⟩, ⟨rfl, rfl⟩, ?_, fun b hb => (hf b hb).1⟩⟩
    have e1 : lo + ((i + 1 : Nat) : Int) = lo + (i : Int) + 1 := by omega
    have e2 : (n : Int) - ((i + 1 : Nat) : Int) = (n : Int) - (i : Int) - 1 := by omega
    rw [e1, e2]
    exact st'
  done := by
    (intro X hP hw hK hc i pins s σ H E I hf st hg)
    subst hP hw hK
    (obtain ⟨f0, f1, f2, f3, f4, f5⟩ := hf it (by simp))
    exact lr_stop it _ _ _ (by have : n ≤ i := hg; omega) (I.ok.hd hc) st fun h' eb => ⟨rfl, I.turned (t' := s.toks) (fun b o hb e => eb b o hb e) f0 f1 f3 f4 f5⟩
  self := fun _ _ _ _ _ st h => lr_self st h
theorem lr_make {r : Addr} {a b c : Int} {t u v : Tok} {prog : Program} {w : World} {A : Around} {s : Shared} {Q : Value → Shared → Prop} {E : Value → Shared → Prop} (hr : IsRange s.heap r a b c t u v) (hbig : Builtin.Range.small a b c = false)
    (hQ : Q (.ref s.heap.objs.size) { s with heap := s.heap.push { cls := .type "longrange_iterator", data := .fields #[rawInt a, rawInt (Builtin.Range.rangeSize a b c), rawInt c] } }) : wpAny (model prog w) A (pyIter (.ref r)) Q E s := by
  (have hT : s.TypeIs (.ref r) "range" := ⟨_, hr, rfl⟩)
  refine wpAny_pyIter_slot hT F.slot_range_iter (call_meets F.slot_range_iter hT F.entry_range_iter (F.args_range_iter_1 _) (AutoRange.range___iter___range_0 r a b c t u v (by unfold Builtin.Range.small at hbig; simp [hbig])) ⟨hr, ?_⟩)
  (unfold Builtin.Range.small at hbig)
  (simp only [hbig, Bool.false_eq_true, if_false])
  exact ⟨"longrange_iterator", _, ⟨_, Heap.get?_push_size _ rfl, rfl⟩, lr_next.lookup, hQ⟩
section
variable {X : Cx} {tg : Expr}
/-- a range object just made, of any ints -/
theorem range_any {pins : List (Addr × Obj)} {σ : L2.St} {H : Hp} {s : Shared} {R : It → Hp → Prop} {E : Value → Shared → Prop} {lo hi : Int} {t u v : Tok} {tk : Nat} (I : Inv X pins σ H s) (q : R (Itr lo (hi - lo).toNat) H) :
    wpAny (model X.prog X.w) X.A (pyIter (.ref s.heap.objs.size)) (PIE X pins σ tg R) E { s with heap := s.heap.push { cls := .type "range", data := .fields #[.int lo t, .int hi u, .int 1 v] }, toks := tk } := by
  (have I1 : Inv X pins σ H { s with heap := s.heap.push { cls := .type "range", data := .fields #[.int lo t, .int hi u, .int 1 v] }, toks := tk } := I.kept fun b o e => Heap.get?_push_of_some _ e)
  have e2 : (((hi - lo).toNat : Nat) : Int) = Builtin.Range.rangeSize lo hi 1 := by rw [rangeSize_one]; split <;> omega
  have fp : ∀ b ∈ [(s.heap.push { cls := .type "range", data := .fields #[.int lo t, .int hi u, .int 1 v] }).objs.size], FpOk X pins H b := fun b hb => by
    rw [List.mem_singleton.mp hb]
    (exact I1.fpOk (Nat.le_refl _) (I1.hok.fresh (Nat.le_refl _)))
  cases hs : Builtin.Range.small lo hi 1 with
  | true =>
    refine wpAny_pyIter_range (IsRange.new ..) hs ⟨_, _, _, _, H, rfl, I1.kept (t' := tk) fun b o e => Heap.get?_push_of_some _ e, turn_range _ lo (hi - lo).toNat, ?_, fp, q⟩
    (show IsRangeIter _ _ (lo + ((0 : Nat) : Int) * 1) ((((hi - lo).toNat : Nat) : Int) - ((0 : Nat) : Int)) 1)
    rw [show lo + ((0 : Nat) : Int) * 1 = lo by simp, show (((hi - lo).toNat : Nat) : Int) - ((0 : Nat) : Int) = Builtin.Range.rangeSize lo hi 1 by rw [← e2]; omega]
    (exact Heap.get?_push_size _ rfl)
  | false =>
    refine lr_make (IsRange.new ..) hs ⟨_, _, _, _, H, rfl, I1.kept (t' := tk) fun b o e => Heap.get?_push_of_some _ e, turn_lr _ lo (hi - lo).toNat, ?_, fp, q⟩
    show IsLR _ _ (lo + ((0 : Nat) : Int)) ((((hi - lo).toNat : Nat) : Int) - ((0 : Nat) : Int)) 1
    rw [show lo + ((0 : Nat) : Int) = lo by simp, show (((hi - lo).toNat : Nat) : Int) - ((0 : Nat) : Int) = Builtin.Range.rangeSize lo hi 1 by rw [← e2]; omega]
    (exact Heap.get?_push_size _ rfl)
def iRgA (ta : TA) : TI := fun σ H R => ta σ H fun vs H1 => ∃ i j : Int, vs = [.int i, .int j] ∧ R (Itr i (j - i).toNat) H1
theorem pi_rangeA {a b : Expr} {ta : TA} {p pos : Pos} (hg : Gl X "range") (hm : X.mg "range" = none) (ha : PA X [a, b] ta) (hs : starEach [a, b] X.env = [(false, eval a X.env), (false, eval b X.env)] := by rfl) (hs2 : starEach [b] X.env = [(false, eval b X.env)] := by rfl) :
    PI X tg (.Call (.Name "range" p) [a, b] [] pos) (iRgA ta) := by
  (refine ⟨fun pins s σ H R I h => ?_⟩)
  refine Call_ (ld_blt I hg hm boot_range (PyProof.Rows.callWith_type1 (thn (ha.run pos pins s σ H _ I h) ?_) (by rw [hs, hs2]) (by rw [hs2]; rfl)))
  rintro us s1 ⟨vs, H1, I1, r1, i, j, rfl, q⟩
  cases r1 with
  | cons r rr =>
    cases rr with
    | cons r' rr =>
      cases rr
      obtain ⟨t, rfl⟩ := r
      obtain ⟨t', rfl⟩ := r'
      exact call_range_2 (range_any I1 q)
variable {K : PySem.W.Frag} {cl : Cl} {wx : WX} {a b : Expr} {p pos : Pos} {fr : S → M (List D × S)}
def iRA (fr : S → M (List D × S)) : S → M (List D × S) := fun s => bd (fr s) fun p => match p.1 with
  | [.int i, .int j] => ok (rangeD i (j - i).toNat, p.2)
  | _ => none
theorem w_rangeA (hm : X.mg "range" = none) (ha : PA X [a, b] (TAof K cl wx fr)) (hg : Gl X "range" := by rfl) (hs : starEach [a, b] X.env = [(false, eval a X.env), (false, eval b X.env)] := by rfl) (hs2 : starEach [b] X.env = [(false, eval b X.env)] := by rfl) : PI X tg (.Call (.Name "range" p) [a, b] [] pos) (TIof K cl wx (iRA fr)) := by
  refine iP (pi_rangeA hg hm ha hs hs2) ?_
  rintro σ H Q ⟨w, L, sd, W, h⟩
  refine ⟨w, L, sd, W, PostA.bd botI h fun rs s1 h vs H1 st1 W1 rr => ?_⟩
  dsimp only at h
  split at h
  · obtain ⟨v, u, rfl, rv, ru⟩ := rr.two
    cases rv
    cases ru
    exact ⟨_, _, rfl, h _ H1 st1 W1 itok_rng⟩
  · exact h.elim
end
end Dt
namespace Dt
open L2 PySem PySem.Spec PyProof.Rows
/-! ### generators: mirrors. So many items are asked for; the items, and how the body ended (none: all that was asked for has come) -/
abbrev GM := Nat → S → M (List D × Option Out)
def gPl (F : S → M Out) : GM := fun _ s => bd (F s) fun o => ok ([], some o)
def gYl (f : S → M (D × S)) : GM := fun n s => bd (f s) fun p => ok ([p.1], if n ≤ 1 then none else some (.nx p.2))
def gSq (F G : GM) : GM := fun n s => bd (F n s) fun p => match p.2 with
  | some (.nx s1) => bd (G (n - p.1.length) s1) fun q => ok (p.1 ++ q.1, q.2)
  | o => ok (p.1, o)
def gIf (c : S → M (Bool × S)) (F G : GM) : GM := fun n s => bd (c s) fun p => if p.1 = true then F n p.2 else G n p.2
def gWhileN (c : S → M (Bool × S)) (F : GM) : Nat → GM
  | 0 => fun _ _ => none
  | k + 1 => fun n s => bd (c s) fun p => if p.1 = true then bd (F n p.2) fun q => match q.2 with
      | some (.nx s1) => bd (gWhileN c F k (n - q.1.length) s1) fun r => ok (q.1 ++ r.1, r.2)
      | some (.ct s1) => bd (gWhileN c F k (n - q.1.length) s1) fun r => ok (q.1 ++ r.1, r.2)
      | some (.bk s1) => ok (q.1, some (.nx s1))
      | o => ok (q.1, o)
    else ok ([], some (.nx p.2))
open Classical in
noncomputable def gWhile (c : S → M (Bool × S)) (F : GM) : GM := fun n s => if h : ∃ k r, gWhileN c F k n s = ok r then ok (choose (choose_spec h)) else none
def gForL (T : D → S → M S) (F : GM) : List D → GM
  | [] => fun _ s => ok ([], some (.nx s))
  | d :: ds => fun n s => bd (T d s) fun s0 => bd (F n s0) fun q => match q.2 with
      | some (.nx s1) => bd (gForL T F ds (n - q.1.length) s1) fun r => ok (q.1 ++ r.1, r.2)
      | some (.ct s1) => bd (gForL T F ds (n - q.1.length) s1) fun r => ok (q.1 ++ r.1, r.2)
      | some (.bk s1) => ok (q.1, some (.nx s1))
      | o => ok (q.1, o)
def gFor (fi : S → M (List D × S)) (T : D → S → M S) (F : GM) : GM := fun n s => bd (fi s) fun p => gForL T F p.1 n p.2
def gPub (i : Nat) (F : GM) : GM := fun n s => F n (pubS i s)
/-- who asks for fewer gets the first of the same items -/
def Cut (zs : List D) (o : Option Out) (m : Nat) : List D × Option Out := if zs.length < m then (zs, o) else (zs.take m, none)
structure PfxAt (F : Nat → M (List D × Option Out)) (n : Nat) (zs : List D) (o : Option Out) : Prop where
  le : zs.length ≤ n
  full : o = none → zs.length = n
  less : o ≠ none → zs.length < n
  cut : ∀ m, 0 < m → m ≤ n → F m = ok (Cut zs o m)
def Pfx (F : GM) : Prop := ∀ n s zs o, 0 < n → F n s = ok (zs, o) → PfxAt (fun m => F m s) n zs o
theorem bd_of {α β : Type} {m : M α} {f : α → M β} {b : β} (h : bd m f = ok b) : ∃ a, m = ok a ∧ f a = ok b := by
  match m, h with
  | none, h => cases h
  | some (.ex _ _), h => cases h
  | some (.ok a), h => exact ⟨a, rfl, h⟩
theorem px_pl {F : S → M Out} : Pfx (gPl F) := by
  intro n s zs o hn h
  obtain ⟨a, e, h⟩ := bd_of h
  cases h
  refine ⟨Nat.zero_le _, fun h => (by cases h), fun _ => hn, fun m hm _ => ?_⟩
  unfold gPl Cut
  rw [e, bd_ok', if_pos (show ([] : List D).length < m from hm)]
theorem px_yl {f : S → M (D × S)} : Pfx (gYl f) := by
  intro n s zs o hn h
  obtain ⟨a, e, h⟩ := bd_of h
  cases h
  refine ⟨hn, fun h => ?_, fun h => ?_, fun m hm hmn => ?_⟩
  · by_cases c : n ≤ 1
    · show 1 = n
      omega
    · rw [if_neg c] at h
      cases h
  · by_cases c : n ≤ 1
    · rw [if_pos c] at h
      exact absurd rfl h
    · show 1 < n
      omega
  · unfold gYl Cut
    rw [e, bd_ok']
    by_cases c : m ≤ 1
    · have c2 : ¬ [a.1].length < m := by
        show ¬ 1 < m
        omega
      have e1 : m = 1 := by omega
      rw [if_pos c, if_neg c2, e1]
      rfl
    · have c2 : [a.1].length < m := by
        show 1 < m
        omega
      rw [if_neg c, if_pos c2, if_neg (show ¬ n ≤ 1 by omega)]
/-- what follows a first part -/
theorem cut_then {F : Nat → M (List D × Option Out)} {G : Nat → M (List D × Option Out)} {n : Nat} {as bs : List D} {x o : Option Out} (hx : x ≠ none) (hn : 0 < n) (h1 : PfxAt F n as x) (h2 : PfxAt G (n - as.length) bs o) (K : Nat → List D × Option Out → M (List D × Option Out)) (hK : ∀ m, K m (as, x) = bd (G (m - as.length)) fun r => ok (as ++ r.1, r.2)) (hK0 : ∀ m zs, K m (zs, none) = ok (zs, none)) :
    PfxAt (fun m => bd (F m) (K m)) n (as ++ bs) o := by
  have l1 := h1.less hx
  refine ⟨?_, fun e => ?_, fun e => ?_, fun m hm hmn => ?_⟩
  · rw [List.length_append]
    have := h2.le
    omega
  · rw [List.length_append, h2.full e]
    omega
  · rw [List.length_append]
    have := h2.less e
    omega
  · show bd (F m) (K m) = _
    rw [h1.cut m hm hmn]
    unfold Cut
    by_cases c : as.length < m
    · rw [if_pos c, bd_ok', hK, h2.cut (m - as.length) (by omega) (by omega)]
      unfold Cut
      by_cases c2 : bs.length < m - as.length
      · rw [if_pos c2, bd_ok', if_pos (by rw [List.length_append]; omega)]
      · rw [if_neg c2, bd_ok', if_neg (by rw [List.length_append]; omega)]
        show ok (as ++ bs.take (m - as.length), none) = _
        rw [List.take_append, List.take_of_length_le (Nat.le_of_lt c)]
    · rw [if_neg c, bd_ok', hK0, if_neg (by rw [List.length_append]; omega)]
      rw [List.take_append_of_le_length (by omega)]
theorem cut_end {F : Nat → M (List D × Option Out)} {n : Nat} {as : List D} {x y : Option Out} (hx : x ≠ none) (hy : y ≠ none) (h1 : PfxAt F n as x) (K : Nat → List D × Option Out → M (List D × Option Out)) (hK : ∀ m, K m (as, x) = ok (as, y)) (hK0 : ∀ m zs, K m (zs, none) = ok (zs, none)) :
    PfxAt (fun m => bd (F m) (K m)) n as y := by
  refine ⟨h1.le, fun e => absurd e hy, fun _ => h1.less hx, fun m hm hmn => ?_⟩
  show bd (F m) (K m) = _
  rw [h1.cut m hm hmn]
  unfold Cut
  by_cases c : as.length < m
  · rw [if_pos c, bd_ok', hK, if_pos c]
  · rw [if_neg c, bd_ok', hK0, if_neg c]
theorem cut_none {F : Nat → M (List D × Option Out)} {n : Nat} {as : List D} (h1 : PfxAt F n as none) (K : Nat → List D × Option Out → M (List D × Option Out)) (hK0 : ∀ m zs, K m (zs, none) = ok (zs, none)) :
    PfxAt (fun m => bd (F m) (K m)) n as none := by
  have l := h1.full rfl
  refine ⟨h1.le, fun _ => l, fun e => absurd rfl e, fun m hm hmn => ?_⟩
  show bd (F m) (K m) = _
  rw [h1.cut m hm hmn]
  unfold Cut
  rw [if_neg (by omega), bd_ok', hK0]
theorem px_sq {F G : GM} (hF : Pfx F) (hG : Pfx G) : Pfx (gSq F G) := by
  intro n s zs o hn h
  obtain ⟨⟨as, x⟩, e, h⟩ := bd_of h
  have h1 := hF n s as x hn e
  cases x with
  | none =>
    have h : ok (as, none) = ok (zs, o) := h
    cases h
    exact cut_none h1 _ fun _ _ => rfl
  | some out =>
    cases out with
    | nx s1 =>
      obtain ⟨⟨bs, y⟩, e2, h⟩ := bd_of h
      cases h
      have l1 := h1.less (by simp)
      exact cut_then (by simp) hn h1 (hG (n - as.length) s1 bs _ (by omega) e2) _ (fun _ => rfl) fun _ _ => rfl
    | bk s1 =>
      have h : ok (as, some (.bk s1)) = ok (zs, o) := h
      cases h
      exact cut_end (by simp) (by simp) h1 _ (fun _ => rfl) fun _ _ => rfl
    | ct s1 =>
      have h : ok (as, some (.ct s1)) = ok (zs, o) := h
      cases h
      exact cut_end (by simp) (by simp) h1 _ (fun _ => rfl) fun _ _ => rfl
    | rt d s1 =>
      have h : ok (as, some (.rt d s1)) = ok (zs, o) := h
      cases h
      exact cut_end (by simp) (by simp) h1 _ (fun _ => rfl) fun _ _ => rfl
    | rf d s1 =>
      have h : ok (as, some (.rf d s1)) = ok (zs, o) := h
      cases h
      exact cut_end (by simp) (by simp) h1 _ (fun _ => rfl) fun _ _ => rfl
theorem px_if {c : S → M (Bool × S)} {F G : GM} (hF : Pfx F) (hG : Pfx G) : Pfx (gIf c F G) := by
  intro n s zs o hn h
  obtain ⟨⟨b, s1⟩, e, h⟩ := bd_of h
  have ee : ∀ m, gIf c F G m s = if b = true then F m s1 else G m s1 := fun m => by
    unfold gIf
    rw [e, bd_ok']
  have z : (fun m => gIf c F G m s) = fun m => if b = true then F m s1 else G m s1 := funext ee
  rw [z]
  cases b with
  | true => exact hF n s1 zs o hn h
  | false => exact hG n s1 zs o hn h
theorem px_whileN {c : S → M (Bool × S)} {F : GM} (hF : Pfx F) : ∀ k, Pfx (gWhileN c F k)
  | 0 => by
    intro n s zs o hn h
    cases h
  | k + 1 => by
    have ih := px_whileN (c := c) hF k
    intro n s zs o hn h
    obtain ⟨⟨b, s0⟩, e, h⟩ := bd_of h
    cases b with
    | false =>
      cases h
      refine ⟨Nat.zero_le _, fun h => (by cases h), fun _ => hn, fun m hm _ => ?_⟩
      show bd (c s) _ = _
      unfold Cut
      rw [e, bd_ok', if_pos (show ([] : List D).length < m from hm)]
      rfl
    | true =>
      have h : (bd (F n s0) fun q => match q.2 with
        | some (.nx s1) => bd (gWhileN c F k (n - q.1.length) s1) fun r => ok (q.1 ++ r.1, r.2)
        | some (.ct s1) => bd (gWhileN c F k (n - q.1.length) s1) fun r => ok (q.1 ++ r.1, r.2)
        | some (.bk s1) => ok (q.1, some (.nx s1))
        | o => ok (q.1, o)) = ok (zs, o) := h
      have z : (fun m => gWhileN c F (k + 1) m s) = fun m => bd (F m s0) fun q => match q.2 with
        | some (.nx s1) => bd (gWhileN c F k (m - q.1.length) s1) fun r => ok (q.1 ++ r.1, r.2)
        | some (.ct s1) => bd (gWhileN c F k (m - q.1.length) s1) fun r => ok (q.1 ++ r.1, r.2)
        | some (.bk s1) => ok (q.1, some (.nx s1))
        | o => ok (q.1, o) := funext fun m => by
        show bd (c s) _ = _
        rw [e, bd_ok']
        rfl
      rw [z]
      obtain ⟨⟨as, x⟩, e1, h⟩ := bd_of h
      have h1 := hF n s0 as x hn e1
      cases x with
      | none =>
        have h : ok (as, none) = ok (zs, o) := h
        cases h
        exact cut_none h1 _ fun _ _ => rfl
      | some out =>
        cases out with
        | nx s1 =>
          obtain ⟨⟨bs, y⟩, e2, h⟩ := bd_of h
          cases h
          have l1 := h1.less (by simp)
          exact cut_then (by simp) hn h1 (ih (n - as.length) s1 bs _ (by omega) e2) _ (fun _ => rfl) fun _ _ => rfl
        | ct s1 =>
          obtain ⟨⟨bs, y⟩, e2, h⟩ := bd_of h
          cases h
          have l1 := h1.less (by simp)
          exact cut_then (by simp) hn h1 (ih (n - as.length) s1 bs _ (by omega) e2) _ (fun _ => rfl) fun _ _ => rfl
        | bk s1 =>
          have h : ok (as, some (.nx s1)) = ok (zs, o) := h
          cases h
          exact cut_end (by simp) (by simp) h1 _ (fun _ => rfl) fun _ _ => rfl
        | rt d s1 =>
          have h : ok (as, some (.rt d s1)) = ok (zs, o) := h
          cases h
          exact cut_end (by simp) (by simp) h1 _ (fun _ => rfl) fun _ _ => rfl
        | rf d s1 =>
          have h : ok (as, some (.rf d s1)) = ok (zs, o) := h
          cases h
          exact cut_end (by simp) (by simp) h1 _ (fun _ => rfl) fun _ _ => rfl
theorem gWhileN_up {c : S → M (Bool × S)} {F : GM} : ∀ {k n : Nat} {s : S} {r : List D × Option Out}, gWhileN c F k n s = ok r → gWhileN c F (k + 1) n s = ok r
  | 0, _, _, _, h => by cases h
  | k + 1, n, s, r, h => by
    obtain ⟨⟨b, s0⟩, e, h⟩ := bd_of h
    show bd (c s) _ = _
    rw [e, bd_ok']
    cases b with
    | false => exact h
    | true =>
      obtain ⟨⟨as, x⟩, e1, h⟩ := bd_of (m := F n s0) h
      show bd (F n s0) _ = _
      rw [e1, bd_ok']
      match x, h with
      | none, h => exact h
      | some (.nx s1), h =>
        obtain ⟨r2, e2, h⟩ := bd_of h
        show bd (gWhileN c F (k + 1) (n - as.length) s1) _ = _
        rw [gWhileN_up e2]
        exact h
      | some (.ct s1), h =>
        obtain ⟨r2, e2, h⟩ := bd_of h
        show bd (gWhileN c F (k + 1) (n - as.length) s1) _ = _
        rw [gWhileN_up e2]
        exact h
      | some (.bk s1), h => exact h
      | some (.rt d s1), h => exact h
      | some (.rf d s1), h => exact h
theorem gWhileN_le {c : S → M (Bool × S)} {F : GM} {k n : Nat} {s : S} {r : List D × Option Out} (h : gWhileN c F k n s = ok r) (j : Nat) : gWhileN c F (k + j) n s = ok r := by
  induction j with
  | zero => exact h
  | succ j ih => exact gWhileN_up ih
theorem gWhile_of {c : S → M (Bool × S)} {F : GM} {k n : Nat} {s : S} {r : List D × Option Out} (h : gWhileN c F k n s = ok r) : gWhile c F n s = ok r := by
  have e : ∃ k r, gWhileN c F k n s = ok r := ⟨k, r, h⟩
  unfold gWhile
  rw [dif_pos e]
  have e2 := Classical.choose_spec (Classical.choose_spec e)
  generalize Classical.choose (Classical.choose_spec e) = r2 at e2
  have a := gWhileN_le h (Classical.choose e)
  have b := gWhileN_le e2 k
  rw [Nat.add_comm] at b
  exact b.symm.trans a
theorem of_gWhile {c : S → M (Bool × S)} {F : GM} {n : Nat} {s : S} {r : List D × Option Out} (h : gWhile c F n s = ok r) : ∃ k, gWhileN c F k n s = ok r := by
  unfold gWhile at h
  split at h
  · next e =>
    cases h
    exact ⟨_, Classical.choose_spec (Classical.choose_spec e)⟩
  · cases h
theorem px_while {c : S → M (Bool × S)} {F : GM} (hF : Pfx F) : Pfx (gWhile c F) := by
  intro n s zs o hn h
  obtain ⟨k, h⟩ := of_gWhile h
  have p := px_whileN (c := c) hF k n s zs o hn h
  exact ⟨p.le, p.full, p.less, fun m hm hmn => gWhile_of (p.cut m hm hmn)⟩
theorem px_forL {T : D → S → M S} {F : GM} (hF : Pfx F) : ∀ ds, Pfx (gForL T F ds)
  | [] => by
    intro n s zs o hn h
    cases h
    refine ⟨Nat.zero_le _, fun h => (by cases h), fun _ => hn, fun m hm _ => ?_⟩
    unfold Cut
    rw [if_pos (show ([] : List D).length < m from hm)]
    rfl
  | d :: ds => by
    have ih := px_forL (T := T) hF ds
    intro n s zs o hn h
    obtain ⟨s0, e, h⟩ := bd_of (m := T d s) h
    have z : (fun m => gForL T F (d :: ds) m s) = fun m => bd (F m s0) fun q => match q.2 with
      | some (.nx s1) => bd (gForL T F ds (m - q.1.length) s1) fun r => ok (q.1 ++ r.1, r.2)
      | some (.ct s1) => bd (gForL T F ds (m - q.1.length) s1) fun r => ok (q.1 ++ r.1, r.2)
      | some (.bk s1) => ok (q.1, some (.nx s1))
      | o => ok (q.1, o) := funext fun m => by
      show bd (T d s) _ = _
      rw [e, bd_ok']
    rw [z]
    obtain ⟨⟨as, x⟩, e1, h⟩ := bd_of (m := F n s0) h
    have h1 := hF n s0 as x hn e1
    cases x with
    | none =>
      have h : ok (as, none) = ok (zs, o) := h
      cases h
      exact cut_none h1 _ fun _ _ => rfl
    | some out =>
      cases out with
      | nx s1 =>
        obtain ⟨⟨bs, y⟩, e2, h⟩ := bd_of h
        cases h
        have l1 := h1.less (by simp)
        exact cut_then (by simp) hn h1 (ih (n - as.length) s1 bs _ (by omega) e2) _ (fun _ => rfl) fun _ _ => rfl
      | ct s1 =>
        obtain ⟨⟨bs, y⟩, e2, h⟩ := bd_of h
        cases h
        have l1 := h1.less (by simp)
        exact cut_then (by simp) hn h1 (ih (n - as.length) s1 bs _ (by omega) e2) _ (fun _ => rfl) fun _ _ => rfl
      | bk s1 =>
        have h : ok (as, some (.nx s1)) = ok (zs, o) := h
        cases h
        exact cut_end (by simp) (by simp) h1 _ (fun _ => rfl) fun _ _ => rfl
      | rt d s1 =>
        have h : ok (as, some (.rt d s1)) = ok (zs, o) := h
        cases h
        exact cut_end (by simp) (by simp) h1 _ (fun _ => rfl) fun _ _ => rfl
      | rf d s1 =>
        have h : ok (as, some (.rf d s1)) = ok (zs, o) := h
        cases h
        exact cut_end (by simp) (by simp) h1 _ (fun _ => rfl) fun _ _ => rfl
theorem px_for {fi : S → M (List D × S)} {T : D → S → M S} {F : GM} (hF : Pfx F) : Pfx (gFor fi T F) := by
  intro n s zs o hn h
  obtain ⟨⟨ds, s0⟩, e, h⟩ := bd_of (m := fi s) h
  have z : (fun m => gFor fi T F m s) = fun m => gForL T F ds m s0 := funext fun m => by
    unfold gFor
    rw [e, bd_ok']
  rw [z]
  exact px_forL hF ds n s0 zs o hn h
theorem px_pub {i : Nat} {F : GM} (hF : Pfx F) : Pfx (gPub i F) := fun n s zs o hn h => hF n (pubS i s) zs o hn h
end Dt
/-! Sleeping generators that nobody wakes stay as they are: a frame rule for the table of generators. -/
namespace Dt
open L2 PySem PySem.Spec PyProof.Rows
def asl : GenState → Bool
  | .suspended .. => true
  | _ => false
/-- .. whose code stops if somebody wakes it -/
def dead : GenState → GenState
  | .suspended _ l c p fs cl => .suspended (fun _ => .unsupported "") l c p fs cl
  | x => x
theorem dead_seen (x : GenState) : (dead x).seen = x.seen := by cases x <;> rfl
theorem dead_bare (x : GenState) : (dead x).bare = x.bare := by cases x <;> rfl
def Asl (old : Array GenState) (i : Nat) : Prop := ∃ y, old[i]? = some y ∧ asl y = true
def pick (old : Array GenState) (i : Nat) (x : GenState) : GenState := match old[i]? with
  | some y => if asl y = true then y else x
  | none => x
theorem pick_not {old : Array GenState} {i : Nat} {x : GenState} (h : ¬ Asl old i) : pick old i x = x := by
  unfold pick
  split
  · next y e =>
    by_cases c : asl y = true
    · exact absurd ⟨y, e, c⟩ h
    · rw [if_neg c]
  · rfl
theorem pick_asl {old : Array GenState} {i : Nat} {x y : GenState} (e : old[i]? = some y) (c : asl y = true) : pick old i x = y := by
  unfold pick
  rw [e]
  exact if_pos c
def thawG (old gens : Array GenState) : Array GenState := gens.mapIdx fun i x => pick old i x
def thaw (old : Array GenState) (s : Shared) : Shared := { s with gens := thawG old s.gens }
def freeze (s : Shared) : Shared := { s with gens := s.gens.map dead }
theorem thawG_get (old gens : Array GenState) (i : Nat) : (thawG old gens)[i]? = (gens[i]?).map (pick old i) := by
  unfold thawG
  rw [Array.getElem?_mapIdx]
theorem thawG_size (old gens : Array GenState) : (thawG old gens).size = gens.size := by
  unfold thawG
  rw [Array.size_mapIdx]
theorem thaw_freeze (s : Shared) : thaw s.gens (freeze s) = s := by
  have e : thawG s.gens (s.gens.map dead) = s.gens := by
    refine Array.ext_getElem? fun i => ?_
    rw [thawG_get, Array.getElem?_map]
    cases q : s.gens[i]? with
    | none => rfl
    | some y =>
      show some (pick s.gens i (dead y)) = some y
      by_cases c : asl y = true
      · rw [pick_asl q c]
      · rw [pick_not fun ⟨z, h1, h2⟩ => by rw [q] at h1; cases h1; exact c h2]
        cases y with
        | suspended => exact absurd rfl c
        | _ => rfl
  unfold thaw freeze
  rw [e]
theorem thaw_set {old : Array GenState} {s : Shared} {g : Nat} {x : GenState} (h : ¬ Asl old g) : thaw old (s.setGen g x) = (thaw old s).setGen g x := by
  have e : thawG old (s.gens.setIfInBounds g x) = (thawG old s.gens).setIfInBounds g x := by
    refine Array.ext_getElem? fun i => ?_
    rw [thawG_get, Array.getElem?_setIfInBounds, Array.getElem?_setIfInBounds, thawG_size, thawG_get]
    by_cases c : g = i
    · subst c
      rw [if_pos rfl, if_pos rfl]
      by_cases l : g < s.gens.size
      · rw [if_pos l]
        show some (pick old g x) = some x
        rw [pick_not h]
      · rw [if_neg l]
        rfl
    · rw [if_neg c, if_neg c]
  unfold thaw Shared.setGen
  exact congrArg (fun z => ({ s with gens := z } : Shared)) e
theorem thaw_push {old : Array GenState} {s : Shared} {x : GenState} (h : old.size ≤ s.gens.size) : thaw old { s with gens := s.gens.push x } = { thaw old s with gens := (thaw old s).gens.push x } := by
  have e : thawG old (s.gens.push x) = (thawG old s.gens).push x := by
    refine Array.ext_getElem? fun i => ?_
    rw [thawG_get, Array.getElem?_push, Array.getElem?_push, thawG_size, thawG_get]
    by_cases c : i = s.gens.size
    · rw [if_pos c, if_pos c]
      show some (pick old i x) = some x
      rw [pick_not fun ⟨y, h1, _⟩ => by
        have := (Array.getElem?_eq_some_iff.mp h1).1
        omega]
    · rw [if_neg c, if_neg c]
  unfold thaw
  exact congrArg (fun z => ({ s with gens := z } : Shared)) e
/-- the sleepers of old sleep on, nobody can wake them; who sleeps otherwise sleeps in its own frames -/
structure Gfz (old : Array GenState) (s : Shared) : Prop where
  sz : old.size ≤ s.gens.size
  at' : ∀ (i : Nat) (y : GenState), old[i]? = some y → asl y = true → s.gens[i]? = some (dead y)
  cl : ∀ (i : Nat) (k : Resume → Sem PySem.Fin) (l : List Value) (c : Code) (p : Pos) (fs : List Frame) (z : Bool), s.gens[i]? = some (.suspended k l c p fs z) → ¬ Asl old i → splitAtGen fs = none
theorem gfz_freeze (s : Shared) : Gfz s.gens (freeze s) := by
  refine ⟨?_, fun i y e c => ?_, fun i k l c p fs z e n => ?_⟩
  · show s.gens.size ≤ (s.gens.map dead).size
    rw [Array.size_map]
    exact Nat.le_refl _
  · show (s.gens.map dead)[i]? = some (dead y)
    rw [Array.getElem?_map, e]
    rfl
  · have e : (s.gens.map dead)[i]? = some (.suspended k l c p fs z) := e
    rw [Array.getElem?_map] at e
    cases q : s.gens[i]? with
    | none => (rw [q] at e; cases e)
    | some y =>
      rw [q] at e
      have e : some (dead y) = some (.suspended k l c p fs z) := e
      cases y with
      | suspended => exact absurd ⟨_, q, rfl⟩ n
      | _ => cases e
theorem Gfz.set {old : Array GenState} {s : Shared} {g : Nat} {x : GenState} (f : Gfz old s) (h : ¬ Asl old g) (hx : ∀ k l c p fs z, x = .suspended k l c p fs z → splitAtGen fs = none) : Gfz old (s.setGen g x) := by
  refine ⟨?_, fun i y e c => ?_, fun i k l c p fs z e n => ?_⟩
  · show old.size ≤ (s.gens.setIfInBounds g x).size
    rw [Array.size_setIfInBounds]
    exact f.sz
  · show (s.gens.setIfInBounds g x)[i]? = some (dead y)
    rw [Array.getElem?_setIfInBounds_ne]
    · exact f.at' i y e c
    · rintro rfl
      exact h ⟨y, e, c⟩
  · have e : (s.gens.setIfInBounds g x)[i]? = some (.suspended k l c p fs z) := e
    rw [Array.getElem?_setIfInBounds] at e
    by_cases q : g = i
    · rw [if_pos q] at e
      split at e
      · exact hx k l c p fs z (Option.some.inj e)
      · cases e
    · rw [if_neg q] at e
      exact f.cl i k l c p fs z e n
theorem Gfz.push {old : Array GenState} {s : Shared} {c : Code} (f : Gfz old s) : Gfz old { s with gens := s.gens.push (.fresh c) } := by
  refine ⟨?_, fun i y e h => ?_, fun i k l c' p fs z e n => ?_⟩
  · show old.size ≤ (s.gens.push (.fresh c)).size
    rw [Array.size_push]
    exact Nat.le_succ_of_le f.sz
  · show (s.gens.push (.fresh c))[i]? = _
    rw [Array.getElem?_push, if_neg]
    · exact f.at' i y e h
    · have := (Array.getElem?_eq_some_iff.mp e).1
      have := f.sz
      omega
  · have e : (s.gens.push (.fresh c))[i]? = some (.suspended k l c' p fs z) := e
    rw [Array.getElem?_push] at e
    split at e
    · cases e
    · exact f.cl i k l c' p fs z e n
theorem thaw_get_not {old : Array GenState} {s : Shared} {g : Nat} {x : GenState} (h : ¬ Asl old g) (e : s.gens[g]? = some x) : (thaw old s).gens[g]? = some x := by
  show (thawG old s.gens)[g]? = some x
  rw [thawG_get, e]
  show some (pick old g x) = _
  rw [pick_not h]
/-- what is seen of a generator -/
theorem thaw_seen {old : Array GenState} {s : Shared} {g : Nat} {x : GenState} (f : Gfz old s) (e : s.gens[g]? = some x) : ∃ y, (thaw old s).gens[g]? = some y ∧ y.seen = x.seen := by
  by_cases h : Asl old g
  · obtain ⟨y, h1, h2⟩ := h
    have e2 := f.at' g y h1 h2
    rw [e] at e2
    cases e2
    refine ⟨y, ?_, (dead_seen y).symm⟩
    show (thawG old s.gens)[g]? = some y
    rw [thawG_get, e]
    show some (pick old g _) = _
    rw [pick_asl h1 h2]
  · exact ⟨x, thaw_get_not h e, rfl⟩
theorem Gfz.notAsl {old : Array GenState} {s : Shared} {g : Nat} {x : GenState} (f : Gfz old s) (e : s.gens[g]? = some x) (h : asl x = false) : ¬ Asl old g := fun ⟨y, h1, h2⟩ => by
  have e2 := f.at' g y h1 h2
  rw [e] at e2
  cases e2
  cases y with
  | suspended => cases h
  | _ => cases h2
theorem split_append : ∀ {a b : List Frame}, splitAtGen a = none → splitAtGen b = none → splitAtGen (a ++ b) = none
  | [], _, _, h => h
  | .gen .. :: _, _, h, _ => by cases h
  | .ret k h' g l c p kp :: r, b, h, hb => by
    have h : (splitAtGen r).map _ = none := h
    have hr : splitAtGen r = none := by
      cases q : splitAtGen r with
      | none => rfl
      | some z => rw [q] at h; cases h
    show (splitAtGen (r ++ b)).map _ = none
    rw [split_append hr hb]
    rfl
theorem split_tail {k h g l c p kp} {r : List Frame} (h' : splitAtGen (.ret k h g l c p kp :: r) = none) : splitAtGen r = none := by
  have h' : (splitAtGen r).map _ = none := h'
  cases q : splitAtGen r with
  | none => rfl
  | some z => rw [q] at h'; cases h'
def cln : End → Prop
  | .ret _ => True
  | .susp _ _ _ _ _ _ fs => splitAtGen fs = none
theorem cln_gen {e : End} (h : cln e) : ∀ k l c p fs z, e.genState = .suspended k l c p fs z → splitAtGen fs = none := by
  intro k l c p fs z q
  cases e with
  | ret r => cases q
  | susp v g l' k' c' p' fs' =>
    cases q
    exact h
theorem runs_un {M : Model} {Γ : PySem.Ctx} {p : Pos} {t : Sem PySem.Fin} {fs : List Frame} {s : Shared} {e : End} {s' : Shared} (h : Runs M Γ p t fs s e s') : ∀ w, t ≠ .unsupported w := by
  induction h with
  | segRet _ _ ih _ => exact ih
  | segGen _ _ ih _ => exact ih
  | segSuspOut _ _ ih => exact ih
  | segSuspGen _ _ _ _ ih _ => exact ih
  | _ => intro w q; cases q
theorem runs_thaw {M : Model} {Γ : PySem.Ctx} {p : Pos} {t : Sem PySem.Fin} {fs : List Frame} {s : Shared} {e : End} {s' : Shared} (h : Runs M Γ p t fs s e s') (old : Array GenState) :
    Gfz old s → splitAtGen fs = none → Gfz old s' ∧ cln e ∧ Runs M Γ p t fs (thaw old s) e (thaw old s') := by
  induction h with
  | done => exact fun f _ => ⟨f, True.intro, .done⟩
  | raise => exact fun f _ => ⟨f, True.intro, .raise⟩
  | again h _ ih => exact fun f g => let ⟨a, b, c⟩ := ih f g; ⟨a, b, .again h c⟩
  | rule _ ih => exact fun f g => let ⟨a, b, c⟩ := ih f g; ⟨a, b, .rule c⟩
  | «at» _ ih => exact fun f g => let ⟨a, b, c⟩ := ih f g; ⟨a, b, .at c⟩
  | load h _ ih => exact fun f g => let ⟨a, b, c⟩ := ih f g; ⟨a, b, .load h c⟩
  | update h _ ih => exact fun f g => let ⟨a, b, c⟩ := ih ⟨f.sz, f.at', f.cl⟩ g; ⟨a, b, .update h c⟩
  | loadIfAlive _ ih => exact fun f g => let ⟨a, b, c⟩ := ih f g; ⟨a, b, .loadIfAlive c⟩
  | point _ ih => exact fun f g => let ⟨a, b, c⟩ := ih f g; ⟨a, b, .point c⟩
  | alloc _ ih => exact fun f g => let ⟨a, b, c⟩ := ih ⟨f.sz, f.at', f.cl⟩ g; ⟨a, b, .alloc c⟩
  | fresh _ ih => exact fun f g => let ⟨a, b, c⟩ := ih ⟨f.sz, f.at', f.cl⟩ g; ⟨a, b, .fresh c⟩
  | ask _ ih => exact fun f g => let ⟨a, b, c⟩ := ih f g; ⟨a, b, .ask c⟩
  | choose h _ ih => exact fun f g => let ⟨a, b, c⟩ := ih ⟨f.sz, f.at', f.cl⟩ g; ⟨a, b, .choose h c⟩
  | os _ ih => exact fun f g => let ⟨a, b, c⟩ := ih ⟨f.sz, f.at', f.cl⟩ g; ⟨a, b, .os c⟩
  | handled _ ih => exact fun f g => let ⟨a, b, c⟩ := ih f g; ⟨a, b, .handled c⟩
  | genState h _ ih =>
    intro f g
    obtain ⟨a, b, c⟩ := ih f g
    obtain ⟨y, h1, h2⟩ := thaw_seen f h
    exact ⟨a, b, .genState h1 (by rw [h2]; exact c)⟩
  | stack _ ih => exact fun f g => let ⟨a, b, c⟩ := ih f g; ⟨a, b, .stack c⟩
  | thread _ ih => exact fun f g => let ⟨a, b, c⟩ := ih f g; ⟨a, b, .thread c⟩
  | newGen _ ih =>
    intro f g
    obtain ⟨a, b, c⟩ := ih f.push g
    refine ⟨a, b, .newGen ?_⟩
    rw [thaw_push f.sz] at c
    rw [show (thaw old _).gens.size = _ from thawG_size old _]
    exact c
  | call _ _ ih1 ih2 =>
    intro f g
    obtain ⟨a, _, c⟩ := ih1 f rfl
    obtain ⟨a2, b2, c2⟩ := ih2 a g
    exact ⟨a2, b2, .call c c2⟩
  | callSusp _ ih =>
    intro f g
    obtain ⟨a, b, c⟩ := ih f rfl
    exact ⟨a, split_append b rfl, .callSusp c⟩
  | yield => exact fun f g => ⟨f, rfl, .yield⟩
  | resumeFresh h _ hq _ ih1 ih2 =>
    intro f g
    have n := f.notAsl h rfl
    obtain ⟨a, b, c⟩ := ih1 (f.set n fun _ _ _ _ _ _ q => by cases q) rfl
    obtain ⟨a2, b2, c2⟩ := ih2 (a.set n (cln_gen b)) g
    rw [thaw_set n] at c c2
    exact ⟨a2, b2, .resumeFresh (thaw_get_not n h) c hq c2⟩
  | resumeSuspended h h1 hq _ ih1 ih2 =>
    intro f g
    rename_i g' r l k s k₀ l₀ c₀ p₀ fs cl e₁ s₁ e s' _
    by_cases n : Asl old g'
    · obtain ⟨y, e1, e2⟩ := n
      have e3 := f.at' _ _ e1 e2
      rw [h] at e3
      cases y with
      | suspended =>
        cases e3
        exact absurd rfl (runs_un h1 "")
      | _ => cases e2
    · obtain ⟨a, b, c⟩ := ih1 (f.set n fun _ _ _ _ _ _ q => by cases q) (f.cl _ _ _ _ _ _ _ h n)
      obtain ⟨a2, b2, c2⟩ := ih2 (a.set n (cln_gen b)) g
      rw [thaw_set n] at c c2
      exact ⟨a2, b2, .resumeSuspended (thaw_get_not n h) c hq c2⟩
  | resumeJustStarted h hv _ ih =>
    intro f g
    obtain ⟨a, b, c⟩ := ih f g
    exact ⟨a, b, .resumeJustStarted (thaw_get_not (f.notAsl h rfl) h) hv c⟩
  | resumeThrowFresh h _ ih =>
    intro f g
    have n := f.notAsl h rfl
    obtain ⟨a, b, c⟩ := ih (f.set n fun _ _ _ _ _ _ q => by cases q) g
    rw [thaw_set n] at c
    exact ⟨a, b, .resumeThrowFresh (thaw_get_not n h) c⟩
  | resumeRunning h _ ih =>
    intro f g
    obtain ⟨a, b, c⟩ := ih f g
    exact ⟨a, b, .resumeRunning (thaw_get_not (f.notAsl h rfl) h) c⟩
  | resumeFinished h _ ih =>
    intro f g
    obtain ⟨a, b, c⟩ := ih f g
    exact ⟨a, b, .resumeFinished (thaw_get_not (f.notAsl h rfl) h) c⟩
  | segRet _ _ ih1 ih2 =>
    intro f g
    obtain ⟨a, _, c⟩ := ih1 f rfl
    obtain ⟨a2, b2, c2⟩ := ih2 a (split_tail g)
    exact ⟨a2, b2, .segRet c c2⟩
  | segGen _ _ _ _ => exact fun _ g => by cases g
  | segSuspOut h _ ih =>
    intro f g
    obtain ⟨a, b, c⟩ := ih f rfl
    exact ⟨a, split_append b g, .segSuspOut h c⟩
  | segSuspGen h _ _ _ _ _ => exact fun _ g => by rw [h] at g; cases g
theorem wp_thaw {α : Type} {M : Model} {old : Array GenState} (t : Sem α) : ∀ (Γ : PySem.Ctx) (Q : α → Pos → Shared → Prop) (E : Value → Pos → Shared → Prop) (p : Pos) (s : Shared), Gfz old s → Sem.wp M Γ t Q E p s →
    Sem.wp M Γ t (fun a p s' => ∃ s0, Gfz old s0 ∧ s' = thaw old s0 ∧ Q a p s0) (fun a p s' => ∃ s0, Gfz old s0 ∧ s' = thaw old s0 ∧ E a p s0) p (thaw old s) := by
  induction t with
  | pure a => exact fun Γ Q E p s f h => ⟨s, f, rfl, h⟩
  | raise e => exact fun Γ Q E p s f h => ⟨s, f, rfl, h⟩
  | unsupported w => exact fun Γ Q E p s f h => h
  | finish e => exact fun Γ Q E p s f h => h
  | rule tag k ih => exact fun Γ Q E p s f h => ih () Γ Q E p s f h
  | «at» p' k ih => exact fun Γ Q E p s f h => ih () Γ Q E p' s f h
  | load a part k ih => exact fun Γ Q E p s f ⟨o, e, h⟩ => ⟨o, e, ih o Γ Q E p s f h⟩
  | update a part g k ih => exact fun Γ Q E p s f ⟨e, h⟩ => ⟨e, ih () Γ Q E p { s with heap := s.heap.update a g } ⟨f.sz, f.at', f.cl⟩ h⟩
  | loadIfAlive a k ih => exact fun Γ Q E p s f h => ih _ Γ Q E p s f h
  | point l k ih => exact fun Γ Q E p s f h => ih () Γ Q E p s f h
  | register a k ih => exact fun Γ Q E p s f h => h
  | alloc o k ih => exact fun Γ Q E p s f h => ih _ Γ Q E p { s with heap := s.heap.push o } ⟨f.sz, f.at', f.cl⟩ h
  | fresh k ih => exact fun Γ Q E p s f h => ih _ Γ Q E p { s with toks := s.toks + 1 } ⟨f.sz, f.at', f.cl⟩ h
  | ask k ih => exact fun Γ Q E p s f h => ih _ Γ Q E p s f h
  | choose src n k ih => exact fun Γ Q E p s f ⟨e, h⟩ => ⟨e, ih _ Γ Q E p { s with drawn := s.drawn.bump src } ⟨f.sz, f.at', f.cl⟩ h⟩
  | os q l k ih => exact fun Γ Q E p s f h => ih _ Γ Q E p { s with os := (Os.step s.os q).1 } ⟨f.sz, f.at', f.cl⟩ h
  | call c h g l k ih =>
    rintro Γ Q E p s f ⟨r, s1, h1, h2⟩
    obtain ⟨a, _, c⟩ := runs_thaw h1 old f rfl
    exact ⟨r, thaw old s1, c, ih r Γ Q E p s1 a h2⟩
  | handled own k ih => exact fun Γ Q E p s f h => ih _ Γ Q E p s f h
  | genState g k ih =>
    rintro Γ Q E p s f ⟨st, e, h⟩
    obtain ⟨y, h1, h2⟩ := thaw_seen f e
    exact ⟨y, h1, by rw [h2]; exact ih _ Γ Q E p s f h⟩
  | newGen c k ih =>
    intro Γ Q E p s f h
    have := ih _ Γ Q E p _ f.push h
    rw [thaw_push f.sz] at this
    show Sem.wp M Γ (k (thaw old s).gens.size) _ _ p { thaw old s with gens := (thaw old s).gens.push (.fresh c) }
    rw [show (thaw old s).gens.size = s.gens.size from thawG_size old _]
    exact this
  | resume g r l k ih =>
    rintro Γ Q E p s f ⟨res, s1, hw, h⟩
    suffices z : Wakes M Γ p g r (thaw old s) res (thaw old s1) ∧ Gfz old s1 from ⟨res, thaw old s1, z.1, ih res Γ Q E p s1 z.2 h⟩
    unfold Wakes at hw ⊢
    cases q : s.gens[g]? with
    | none => rw [q] at hw; exact hw.elim
    | some st =>
      rw [q] at hw
      by_cases n : Asl old g
      · obtain ⟨y, e1, e2⟩ := n
        have e3 := f.at' _ _ e1 e2
        rw [q] at e3
        cases e3
        cases y with
        | suspended =>
          obtain ⟨e₁, s₁, hr, _⟩ := hw
          exact absurd rfl (runs_un hr "")
        | _ => cases e2
      · rw [thaw_get_not n q]
        cases st with
        | fresh c =>
          cases r with
          | send v =>
            cases v with
            | none =>
              obtain ⟨e₁, s₁, hr, hq, hres, rfl⟩ := hw
              obtain ⟨a, b, c⟩ := runs_thaw hr old (f.set n fun _ _ _ _ _ _ q => by cases q) rfl
              rw [thaw_set n] at c
              exact ⟨⟨e₁, thaw old s₁, c, hq, hres, thaw_set n⟩, a.set n (cln_gen b)⟩
            | _ =>
              obtain ⟨hres, rfl⟩ := hw
              exact ⟨⟨hres, rfl⟩, f⟩
          | throw x =>
            obtain ⟨hres, rfl⟩ := hw
            exact ⟨⟨hres, thaw_set n⟩, f.set n fun _ _ _ _ _ _ q => by cases q⟩
        | suspended k₀ l₀ c₀ p₀ fs z =>
          obtain ⟨e₁, s₁, hr, hq, hres, rfl⟩ := hw
          obtain ⟨a, b, c⟩ := runs_thaw hr old (f.set n fun _ _ _ _ _ _ q => by cases q) (f.cl _ _ _ _ _ _ _ q n)
          rw [thaw_set n] at c
          exact ⟨⟨e₁, thaw old s₁, c, hq, hres, thaw_set n⟩, a.set n (cln_gen b)⟩
        | running =>
          obtain ⟨hres, rfl⟩ := hw
          exact ⟨⟨hres, rfl⟩, f⟩
        | finished =>
          obtain ⟨hres, rfl⟩ := hw
          exact ⟨⟨hres, rfl⟩, f⟩
  | yield v g l k ih => exact fun Γ Q E p s f h => h
  | stack k ih => exact fun Γ Q E p s f h => ih _ Γ Q E p s f h
  | fork c k ih => exact fun Γ Q E p s f h => h
  | thread k ih => exact fun Γ Q E p s f h => ih _ Γ Q E p s f h
  | await a k ih => exact fun Γ Q E p s f h => h
/-- the frame rule: run with all sleepers dead, the sleepers are as they were -/
theorem wpAny_frame {α : Type} {M : Model} {A : Around} {t : Sem α} {Q : α → Shared → Prop} {E : Value → Shared → Prop} {s : Shared} (h : wpAny M A t Q E (freeze s)) :
    wpAny M A t (fun a s' => ∃ s0, Gfz s.gens s0 ∧ s' = thaw s.gens s0 ∧ Q a s0) (fun a s' => ∃ s0, Gfz s.gens s0 ∧ s' = thaw s.gens s0 ∧ E a s0) s := fun Γ p hΓ => by
  have := wp_thaw (old := s.gens) t Γ _ _ p _ (gfz_freeze s) (h Γ p hΓ)
  rw [thaw_freeze] at this
  exact this
theorem allBare_freeze {s : Shared} (h : AllBare s.gens) : AllBare (freeze s).gens := fun y hy => by
  obtain ⟨x, hx, e⟩ := Array.mem_map.mp hy
  rw [← e, dead_bare]
  exact h x hx
theorem allBare_thaw {old : Array GenState} {s : Shared} (ho : AllBare old) (h : AllBare s.gens) : AllBare (thaw old s).gens := fun y hy => by
  (obtain ⟨i, hi, e⟩ := Array.mem_iff_getElem.mp hy)
  have e2 : (thawG old s.gens)[i]? = some y := by
    rw [← e]
    exact Array.getElem?_eq_getElem hi
  rw [thawG_get] at e2
  cases q : s.gens[i]? with
  | none => rw [q] at e2; cases e2
  | some x =>
    rw [q] at e2
    have e2 : some (pick old i x) = some y := e2
    cases e2
    unfold pick
    split
    · next z hz =>
      split
      · exact ho z (Array.mem_of_getElem? hz)
      · exact h x (Array.mem_of_getElem? q)
    · exact h x (Array.mem_of_getElem? q)
/-- who slept sleeps on -/
theorem thaw_at {old : Array GenState} {s : Shared} {g : Nat} {y : GenState} (f : Gfz old s) (e : old[g]? = some y) (h : asl y = true) : (thaw old s).gens[g]? = some y := by
  show (thawG old s.gens)[g]? = some y
  rw [thawG_get, f.at' g y e h]
  show some (pick old g _) = _
  rw [pick_asl e h]
section
variable {X
      : Cx} {pins : List (Addr × Obj)} {σ : L2.St} {H : Hp} {s : Shared}
theorem inv_freeze (I : Inv X pins σ H s) : Inv X pins σ H (freeze s) :=
  ⟨I.ok, I.os, allBare_freeze I.bare, I.base, I.loc, I.cell, I.free, I.freeC, I.pin, I.hok, I.len⟩
theorem inv_thaw {old : Array GenState} (ho : AllBare old) (I : Inv X pins σ H s) : Inv X pins σ H (thaw old s) :=
  ⟨I.ok, I.os, allBare_thaw ho I.bare, I.base, I.loc, I.cell, I.free, I.freeC, I.pin, I.hok, I.len⟩
end
end Dt
namespace Dt
open PySem PySem.Spec PyProof.Rows L2 GenW
/-! ### the heap below an address -/
def low (h : Heap) (n : Nat) : Heap := { h with objs := h.objs.extract 0 n }
theorem low_size (h : Heap) (n : Nat) : (low h n).objs.size = min n h.objs.size := by simp [low]
theorem low_get {h : Heap} {n b : Nat} (hb : b < n) : (low h n).get? b = h.get? b := by
  have e : (low h n).objs[b]? = h.objs[b]? := by
    show (h.objs.extract 0 n)[b]? = _
    rw [Array.getElem?_extract]
    by_cases c : b < h.objs.size
    · rw [if_pos (by omega)]
      simp
    · rw [if_neg (by omega)]
      rw [Array.getElem?_eq_none (by omega)]
  unfold Heap.get?
  rw [e]
theorem low_out {h : Heap} {n b : Nat} {o : Obj} (e : (low h n).get? b = some o) : b < n := by
  have := Heap.lt_size e
  rw [low_size] at this
  exact Nat.lt_of_lt_of_le this (Nat.min_le_left _ _)
theorem of_low {h : Heap} {n b : Nat} {o : Obj} (e : (low h n).get? b = some o) : h.get? b = some o := by
  rw [← low_get (low_out e)]
  exact e
def lowH (H : Hp) (n : Nat) : Hp := fun b => if b < n then H b else none
theorem lowH_in {H : Hp} {n b : Nat} (h : b < n) : lowH H n b = H b := if_pos h
theorem of_lowH {H : Hp} {n b : Nat} {o : HO} (e : lowH H n b = some o) : H b = some o := by
  unfold lowH at e
  split at e
  · exact e
  · cases e
def isCell (o : Obj) : Bool := match o.data with
  | .cell _ => true
  | _ => false
theorem not_cell {o : Obj} (h : isCell o = false) : ∀ v, o.data ≠ .cell v := fun v e => by
  unfold isCell at h
  rw [e] at h
  cases h
/-- what others own and nobody tracks, from n on -/
def keepers (h : Heap) (H : Hp) (n : Nat) (fp : List Addr) : List (Addr × Obj) := (List.range h.objs.size).filterMap fun b =>
  if n ≤ b ∧ (H b).isNone = true ∧ b ∉ fp then (h.get? b).bind fun o => if isCell o = true then none else some (b, o) else none
theorem of_keepers {h : Heap} {H : Hp} {n : Nat} {fp : List Addr} {p : Addr × Obj} (hp : p ∈ keepers h H n fp) : n ≤ p.1 ∧ H p.1 = none ∧ p.1 ∉ fp ∧ h.get? p.1 = some p.2 ∧ ∀ v, p.2.data ≠ .cell v := by
  (obtain ⟨b, _, e⟩ := List.mem_filterMap.mp hp)
  split at e
  · next c =>
    cases q : h.get? b with
    | none => (rw [q] at e; cases e)
    | some o =>
      rw [q] at e
      have e : (if isCell o = true then none else some (b, o)) = some p := e
      by_cases c2 : isCell o = true
      · rw [if_pos c2] at e; cases e
      · rw [if_neg c2] at e
        cases e
        have c3 : isCell o = false := by simpa using c2
        exact ⟨c.1, Option.isNone_iff_eq_none.mp c.2.1, c.2.2, q, not_cell c3⟩
  · cases e
theorem mem_keepers {h : Heap} {H : Hp} {n b : Nat} {fp : List Addr} {o : Obj} (h1 : n ≤ b) (h2 : H b = none) (h3 : b ∉ fp) (h4 : h.get? b = some o) (h5 : isCell o = false) : (b, o) ∈ keepers h H n fp := by
  refine List.mem_filterMap.mpr ⟨b, List.mem_range.mpr (Heap.lt_size h4), ?_⟩
  rw [if_pos ⟨h1, by rw [h2]; rfl, h3⟩, h4]
  show (if isCell o = true then none else some (b, o)) = _
  rw [h5]
  rfl
/-! ### a generator def, called: what stands through its life -/
structure Gp where
  P : Program
  w : World
  K : PySem.W.Frag
  mg : Str → Option Value
  base : Heap
  N : List Str
  qual : Str
  scope : Scope
  f : Addr
  cd : Value
  A : Around
  outer : List Env
  n0 : Addr
abbrev Gp.env (G : Gp) : Env := envOfC G.qual G.scope G.n0 G.f G.cd
/-- its context from the wake at s on: fp: what the consumer holds for it -/
def Gp.X (G : Gp) (s : Shared) (H : Hp) (fp : List Addr) : Cx where
  prog := G.P
  w := G.w
  K := G.K
  mg := G.mg
  base := G.base
  A := G.A.deeper G.env
  N := G.N
  s_0 := { s with heap := low s.heap G.n0 }
  H_0 := lowH H G.n0
  env := G.env
  outer := G.outer
  stack := G.env :: G.outer
  ex := []
  fn := fun _ => true
  calm := true
  pn := keepers s.heap H G.n0 fp
  xe := fun _ _ => False
/-- no cells in its frame; all else that does not change -/
structure Gp.Ok (G : Gp) : Prop where
  kind : G.scope.kind = .function
  nocell : ∀ x, G.env.cells.lookup x = none
  nokind : ∀ x, G.env.kindOf x ≠ some .cell ∧ G.env.kindOf x ≠ some .free
  mod : Mod G.K G.mg G.base
  bsz : G.base.objs.size ≤ G.n0
  hd : G.A.handled = none
  frames : G.A.frames = some G.outer
  below : ∀ b ∈ frs G.outer, b < G.n0
/-- who draws -/
structure Cb where
  X : Cx
  pins : List (Addr × Obj)
  item : Nat → Option D
  fin : Nat → Prop
  Cn : Nat → List Addr → List Addr → L2.St → Hp → Prop
structure Cb.Fits (C : Cb) (G : Gp) : Prop where
  prog : C.X.prog = G.P
  w : C.X.w = G.w
  base : C.X.base = G.base
  stack : C.X.stack = G.outer
  sz : C.X.s_0.heap.objs.size ≤ G.n0
  loc : C.X.env.locals < G.n0
  cells : ∀ x c, C.X.env.cells.lookup x = some c → c < G.n0
abbrev wg (O : List Addr) : Wf := ⟨O, [], 0, fun _ => none⟩
/-- running since the wake at s₀ -/
structure GBat (G : Gp) (C : Cb) (ip : List (Addr × Obj)) (s₀ : Shared) (n : Nat) (O L : List Addr) (σ : L2.St) (H : Hp) (s : Shared) (Hw : Hp) (fp : List Addr) (σc : L2.St) (Lw : List Addr) : Prop where
  cI : Inv C.X C.pins σc Hw s₀
  cn : C.Cn n Lw O σc Hw
  fpo : ∀ b ∈ fp, FpOk C.X C.pins Hw b
  n0 : G.n0 ∈ fp
  ips : ∀ p ∈ ip, G.n0 ≤ p.1 ∧ ∀ q ∈ keepers s₀.heap Hw G.n0 fp, q.1 ≠ p.1
  I : Inv (G.X s₀ Hw fp) ip σ H s
  st : Step (wg O) Lw Hw L H
  mu : ∀ a ∈ Lw, Mut (Hw a)
  sz : G.n0 < s₀.heap.objs.size
structure GIat (G : Gp) (cl : Cl) (C : Cb) (ip : List (Addr × Obj)) (Φ : Hp → Prop) (s₀ : Shared) (n : Nat) (O L : List Addr) (sd : S) (σ : L2.St) (H : Hp) (s : Shared) (Hw : Hp) (fp : List Addr) (σc : L2.St) (Lw : List Addr) : Prop extends GBat G C ip s₀ n O L σ H s Hw fp σc Lw where
  W : Wl G.K cl (wg O) L sd σ H
  phi : Φ (hide (L ++ O) H)
def GB (G : Gp) (C : Cb) (ip : List (Addr × Obj)) (s₀ : Shared) (n : Nat) (O L : List Addr) (σ : L2.St) (H : Hp) (s : Shared) : Prop :=
  ∃ (Hw : Hp) (fp : List Addr) (σc : L2.St) (Lw : List Addr), GBat G C ip s₀ n O L σ H s Hw fp σc Lw
def GI (G : Gp) (cl : Cl) (C : Cb) (ip : List (Addr × Obj)) (Φ : Hp → Prop) (s₀ : Shared) (n : Nat) (O L : List Addr) (sd : S) (σ : L2.St) (H : Hp) (s : Shared) : Prop :=
  ∃ (Hw : Hp) (fp : List Addr) (σc : L2.St) (Lw : List Addr), GIat G cl C ip Φ s₀ n O L sd σ H s Hw fp σc Lw
/-- what the consumer may do meanwhile -/
structure Slp (L O : List Addr) (H : Hp) (O2 : List Addr) (H2 : Hp) : Prop where
  keep : ∀ b o, b ∉ O → H b = some o → H2 b = some o
  alv : ∀ b, H b ≠ none → H2 b ≠ none
  new : ∀ a ∈ O2, a ∈ O ∨ H a = none
  alive : ∀ a ∈ O2, H2 a ≠ none
theorem Slp.seen {L O O2 : List Addr} {H H2 : Hp} (s : Slp L O H O2 H2) : Same (hide (L ++ O) H) (hide (L ++ O2) H2) := fun b o e => by
  obtain ⟨n, e⟩ := hide_some.mp e
  have n1 : b ∉ L := fun z => n (List.mem_append_left _ z)
  have n2 : b ∉ O := fun z => n (List.mem_append_right _ z)
  refine hide_some.mpr ⟨fun z => ?_, s.keep b o n2 e⟩
  rcases List.mem_append.mp z with z | z
  · exact n1 z
  · rcases s.new b z with y | y
    · exact n2 y
    · rw [e] at y; cases y
theorem Wl.slept {K : PySem.W.Frag} {cl : Cl} {L O O2 : List Addr} {sd : S} {σ : L2.St} {H H2 : Hp} (W : Wl K cl (wg O) L sd σ H) (s : Slp L O H O2 H2) : Wl K cl (wg O2) L sd σ H2 := by
  have sm := s.seen
  have own : ∀ {a d}, a ∈ L → OwnAt K cl (fun _ => none) (L ++ O) H a d → OwnAt K cl (fun _ => none) (L ++ O2) H2 a d := fun {a d} ha h => by
    refine h.move ?_ sm
    cases q : H a with
    | none => exact absurd q h.some
    | some o => exact s.keep a o (W.disj a ha) q
  refine ⟨fun b o _ e => (by cases e), fun a _ => rfl, fun a ha => ?_, fun a ha z => ?_, fun a h => by simp at h, ⟨fun i d e => ?_, fun i d e => ?_, fun i d e => ?_, W.st.inj, W.st.ioj, W.st.len⟩⟩
  · rcases List.mem_append.mp ha with z | z
    · exact s.alv a (W.alive a (List.mem_append_left _ z))
    · exact s.alive a z
  · rcases s.new a z with y | y
    · exact W.disj a ha y
    · exact W.alive a (List.mem_append_left _ ha) y
  · obtain ⟨v, h1, h2⟩ := W.st.val i d e
    exact ⟨v, h1, h2.mono sm⟩
  · obtain ⟨a, h1, h2, h3⟩ := W.st.own i d e
    exact ⟨a, h1, h2, own h2 h3⟩
  · obtain ⟨h1, h2, h3⟩ := W.st.io i d e
    exact absurd h2 (by simp)
/-- a yield -/
def GYd (G : Gp) (cl : Cl) (C : Cb) : Protocol := fun n s₀ v s kap =>
  ∃ (O L : List Addr) (sd : S) (σ : L2.St) (H : Hp) (ip : List (Addr × Obj)) (Φ : Hp → Prop) (x : V) (d : D), GI G cl C ip Φ s₀ (n + 1) O L sd σ H s ∧ RelV x v ∧ C.item (n + 1) = some d ∧ Rp G.K cl (hide (L ++ O) H) x d ∧ (∀ a ∈ L, Mut (H a)) ∧
    (n ≠ 0 → ∀ (s2 : Shared) (σ2 : L2.St) (H2 : Hp) (O2 : List Addr), Inv C.X C.pins σ2 H2 s2 → C.Cn n L O2 σ2 H2 → Slp L O H O2 H2 → (∀ b ∈ G.n0 :: ip.map (·.1), FpOk C.X C.pins H2 b ∧ ∀ o, s.heap.get? b = some o → s2.heap.get? b = some o) → kap (.send .none) s2)
/-- the end -/
abbrev GRf (G : Gp) (C : Cb) (n : Nat) (s₀ s : Shared) : Prop := C.fin n ∧ ∃ (O L : List Addr) (σ : L2.St) (H : Hp) (ip : List (Addr × Obj)), GB G C ip s₀ n O L σ H s
def GRd (G : Gp) (cl : Cl) (C : Cb) : GenEnd := fun n s₀ r s =>
  ((r = .ok (.ret .none) ∨ r = .ok .next) ∧ GRf G C n s₀ s) ∨ ∃ e, r = .error e ∧ False
theorem ObjOk.get {P : Program} {w : World} {H : Hp} {h : Heap} {a : Addr} {o : HO} (x : ObjOk P w H h a o) : ∃ u, h.get? a = some u := by
  induction o with
  | lst xs => (obtain ⟨_, _, _, _, e⟩ := x; exact ⟨_, e⟩)
  | tup xs => obtain ⟨_, _, _, ob, e, _⟩ := x; exact ⟨_, e⟩
  | dK kvs => obtain ⟨_, _, _, _, o, _, _, e, _⟩ := x; exact ⟨_, e⟩
  | dT kvs => obtain ⟨_, _, _, _, o, _, _, e, _⟩ := x; exact ⟨_, e⟩
  | set S n => obtain ⟨o, _, _, _, e, _⟩ := x; exact ⟨_, e⟩
  | ins C dx fs => (obtain ⟨_, _, _, e, _⟩ := x; exact ⟨_, e⟩)
  | own y => (obtain ⟨o, e⟩ := x; exact ⟨o, e⟩)
  | xd fs => obtain ⟨_, ⟨_, _, _, e, _⟩, _⟩ := x; exact ⟨_, e⟩
  | rng lo hi => (obtain ⟨_, _, _, e⟩ := x; exact ⟨_, e⟩)
  | frz ob u ih => exact ⟨_, x.1⟩
  | tbl ps => exact ⟨_, x⟩
  | met f y => exact ⟨_, x⟩
  | ext φ => (obtain ⟨_, ⟨o, e⟩, _⟩ := x; exact ⟨o, e⟩)
/-- the cells from n on -/
def cellsOf (h : Heap) (n : Nat) : List Addr := (List.range h.objs.size).filter fun b => match h.get? b with
  | some o => decide (n ≤ b) && isCell o
  | none => false
theorem mem_cellsOf {h : Heap} {n b : Nat} {o : Obj} (e : h.get? b = some o) (h1 : n ≤ b) (h2 : isCell o = true) : b ∈ cellsOf h n := by
  refine List.mem_filter.mpr ⟨List.mem_range.mpr (Heap.lt_size e), ?_⟩
  simp only [e]
  rw [h2, decide_eq_true h1]
  rfl
theorem of_cellsOf {h : Heap} {n b : Nat} (hb : b ∈ cellsOf h n) : n ≤ b ∧ ∃ o v, h.get? b = some o ∧ o.data = .cell v := by
  have e := (List.mem_filter.mp hb).2
  cases q : h.get? b with
  | none =>
    simp only [q] at e
    cases e
  | some o =>
    simp only [q] at e
    obtain ⟨e1, e2⟩ := Bool.and_eq_true_iff.mp e
    refine ⟨of_decide_eq_true e1, o, ?_⟩
    unfold isCell at e2
    split at e2
    · next v hv => exact ⟨v, rfl, hv⟩
    · cases e2
section
variable {G : Gp} {cl : Cl} {C : Cb} {ip : List (Addr × Obj)} {Φ : Hp → Prop} {s₀ s : Shared} {n : Nat} {O L : List Addr} {sd : S} {σ : L2.St} {H Hw : Hp} {fp : List Addr} {σc : L2.St} {Lw : List Addr}
/-- what others own, that is no cell, is kept -/
theorem GBat.un (g : GBat G C ip s₀ n O L σ H s Hw fp σc Lw) (F : C.Fits G) : Un (frs C.X.stack) (fp ++ cellsOf s₀.heap G.n0) Hw H s₀.heap s.heap := by
  have nfs : ∀ {b}, b ∈ frs G.outer → b ∈ frs C.X.stack := fun h => by rw [F.stack]; exact h
  have tr : ∀ b o, Hw b = some o → b ∉ Lw → H b = some o := fun b o e h => g.st.keep b o h (by simp) e
  have I := g.I
  -- untracked, not among ch
  have keepU : ∀ b o, s₀.heap.get? b = some o → Hw b = none → b ∉ fp → ¬ (G.n0 ≤ b ∧ isCell o = true) → (b ∉ frs G.outer → s.heap.get? b = some o) ∧ (∃ sl, s.heap.get? b = some { o with slots := sl }) ∧ H b = none := fun b o e hn hf hc => by
    rcases Nat.lt_or_ge b G.n0 with hb | hb
    · have e' : (low s₀.heap G.n0).get? b = some o := by rw [low_get hb]; exact e
      have n' : lowH Hw G.n0 b = none := by rw [lowH_in hb]; exact hn
      refine ⟨fun h => I.base.keep b o e' n' h (by simp [Gp.X]), ?_, I.base.free b o e' n' (by simp [Gp.X])⟩
      exact I.base.any e' n' (by simp [Gp.X])
    · have hc' : isCell o = false := by
        cases q : isCell o with
        | false => rfl
        | true => exact absurd ⟨hb, q⟩ hc
      have k := I.pin (b, o) (List.mem_append_left _ (mem_keepers hb hn hf e hc'))
      exact ⟨fun _ => k.1, ⟨o.slots, k.1⟩, k.2.1⟩
  have nch : ∀ {b o}, s₀.heap.get? b = some o → b ∉ (fp ++ cellsOf s₀.heap G.n0) → b ∉ fp ∧ ¬ (G.n0 ≤ b ∧ isCell o = true) := fun {b o} e h =>
    ⟨fun z => h (List.mem_append_left _ z), fun ⟨z1, z2⟩ => h (List.mem_append_right _ (mem_cellsOf e z1 z2))⟩
  have nmu : ∀ b u, Hw b = some u → ¬ Mut (some u) → b ∉ Lw := fun b u e hm z => by
    have := g.mu b z
    rw [e] at this
    exact hm this
  refine ⟨fun b o e hn hfs hx => ?_, fun b o e hn hfs hx => ?_, fun b o e hn hx => ?_, fun b o e hx => ?_, fun b xs e => tr b _ e (nmu b _ e fun z => z), fun b o u e => tr b _ e (nmu b _ e fun z => z), fun b ps e => ⟨#[], by rw [tr b _ e (nmu b _ e fun z => z)]; simp⟩⟩
  · obtain ⟨h1, h2⟩ := nch e hx
    exact (keepU b o e hn h1 h2).1 fun z => hfs (nfs z)
  · obtain ⟨h1, h2⟩ := nch e hx
    exact (keepU b o e hn h1 h2).2.1
  · obtain ⟨h1, h2⟩ := nch e hx
    exact (keepU b o e hn h1 h2).2.2
  · obtain ⟨h1, h2⟩ := nch e hx
    cases q : Hw b with
    | none =>
      obtain ⟨sl, h⟩ := (keepU b o e q h1 h2).2.1
      exact ⟨_, h⟩
    | some u =>
      have al : H b ≠ none := g.st.alv b (by rw [q]; simp)
      cases r : H b with
      | none => exact absurd r al
      | some v => exact ObjOk.get (I.hok b v r)
/-- the consumer's state stands -/
theorem GBat.back (g : GBat G C ip s₀ n O L σ H s Hw fp σc Lw) (F : C.Fits G) : Inv C.X C.pins σc H s := by
  have u := g.un F
  have os : s.os = s₀.os := g.I.os
  have hok : HOk C.X.prog C.X.w H s.heap := by
    rw [F.prog, F.w]
    exact g.I.hok
  refine g.cI.call' os u hok g.I.bare fun b hb => ?_
  rcases List.mem_append.mp hb with z | z
  · obtain ⟨_, h1, h2, h3, h4, h5⟩ := g.fpo b z
    exact ⟨h3, h1, h4, h5⟩
  · obtain ⟨h1, o, v, h2, h3⟩ := of_cellsOf z
    refine ⟨.inr (Nat.le_trans F.sz h1), Nat.ne_of_gt (Nat.lt_of_lt_of_le F.loc h1), fun x c e => Nat.ne_of_lt (Nat.lt_of_lt_of_le (F.cells x c e) h1), fun p hp e => ?_⟩
    obtain ⟨k1, _, _, _, k2⟩ := g.cI.pin p hp
    rw [e, h2] at k1
    cases k1
    exact k2 v h3
/-- woken again -/
theorem GIat.wake (g : GIat G cl C ip Φ s₀ n O L sd σ H s Hw fp σc Lw) (F : C.Fits G) (K0 : G.Ok) {L1 : List Addr} (W1 : Wl G.K cl (wg O) L1 sd σ H) (hm : ∀ a ∈ L1, Mut (H a)) (ph : Φ (hide (L1 ++ O) H)) (hΦ : ∀ V V', Same V V' → Φ V → Φ V')
    {m : Nat} {s2 : Shared} {σ2 : L2.St} {H2 : Hp} {O2 : List Addr} (I2 : Inv C.X C.pins σ2 H2 s2) (cn : C.Cn m L1 O2 σ2 H2) (sl : Slp L1 O H O2 H2) (hf : ∀ b ∈ G.n0 :: ip.map (·.1), FpOk C.X C.pins H2 b ∧ ∀ o, s.heap.get? b = some o → s2.heap.get? b = some o) :
    GIat G cl C ip Φ s2 m O2 L1 sd σ H2 s2 H2 (G.n0 :: ip.map (·.1)) σ2 L1 := by
  have fsn : ∀ b ∈ frs G.outer, H2 b = none := fun b hb => I2.stkFree b (by rw [F.stack]; exact hb)
  have gI := g.I
  have hL := (hf G.n0 List.mem_cons_self).2
  have low2 : ∀ b o, (low s2.heap G.n0).get? b = some o → s2.heap.get? b = some o := fun b o e => of_low e
  have low3 : ∀ {b}, b < G.n0 → (low s2.heap G.n0).get? b = s2.heap.get? b := fun h => low_get h
  have hn : H2 G.n0 = none := (hf G.n0 List.mem_cons_self).1.1
  refine ⟨⟨I2, cn, fun b hb => (hf b hb).1, List.mem_cons_self, fun p hp => ⟨(g.ips p hp).1, fun q hq e => (of_keepers hq).2.2.1 (List.mem_cons_of_mem _ (List.mem_map.mpr ⟨p, hp, e.symm⟩))⟩, ?_, .refl, fun a ha => ?_, ?_⟩, W1.slept sl, hΦ _ _ sl.seen ph⟩
  · refine ⟨⟨K0.mod, K0.kind, rfl, rfl, ?_, gI.ok.inj, gI.ok.has, fun x c _ e => ?_, fun _ => K0.hd, Around.frames_deeper K0.frames, .inr ⟨rfl, rfl⟩, fun b z => absurd z (by simp [Gp.X]), fun b o e => ?_, ?_, fun b o e => by simp [Gp.X], fun b z => absurd z (by simp [Gp.X]), ?_, fun b hb => ?_⟩,
      rfl, I2.bare, ⟨fun b o e h1 h2 h3 => low2 b o e, fun b o e h1 h2 h3 => ⟨o.slots, low2 b o e⟩, fun b o e h1 h2 => ?_, fun b o e h1 => ⟨o, low2 b o e⟩, fun b xs e => of_lowH e, fun b o u e => of_lowH e, fun b ps e => ⟨#[], by rw [of_lowH e]; simp⟩⟩, ?_, fun x c e => ?_, hn, fun x c e => ?_, fun p hp => ?_, ?_, gI.len⟩
    · show (low s2.heap G.n0).objs.size ≤ G.n0
      rw [low_size]
      exact Nat.min_le_left _ _
    · rw [show (G.X s2 H2 (G.n0 :: ip.map (·.1))).env.cells.lookup x = none from K0.nocell x] at e
      cases e
    · have q : C.X.base.get? b = some o := by rw [F.base]; exact e
      have hb : b < G.n0 := Nat.lt_of_lt_of_le (Heap.lt_size e) K0.bsz
      obtain ⟨q1, q2⟩ := I2.bs b o q
      exact ⟨(low3 hb).trans q1, (lowH_in hb).trans q2⟩
    · show G.base.objs.size ≤ (low s2.heap G.n0).objs.size
      rw [low_size]
      refine Nat.le_min.mpr ⟨K0.bsz, ?_⟩
      have := I2.ok.bsz
      rw [F.base] at this
      exact Nat.le_trans this I2.sz
    · show (low s2.heap G.n0).FunFrames G.base G.outer
      have fr := I2.stack
      rw [F.stack, F.base] at fr
      have : ∀ (l : List Env), (∀ b ∈ frs l, b < G.n0) → s2.heap.FunFrames G.base l → (low s2.heap G.n0).FunFrames G.base l := by
        intro l
        induction l with
        | nil => intro _ _; trivial
        | cons env rest ih =>
          intro hb ⟨h1, ⟨A, o, h2, h3, h4, h5⟩, h6⟩
          have hA : A < G.n0 := hb A (by
            unfold frs
            rw [List.filterMap_cons, h2]
            exact List.mem_cons_self)
          refine ⟨h1, ⟨A, o, h2, h3, (low3 hA).trans h4, h5⟩, ih (fun b z => hb b ?_) h6⟩
          unfold frs
          rw [List.filterMap_cons, h2]
          exact List.mem_cons_of_mem _ z
      exact this G.outer K0.below fr
    · show lowH H2 G.n0 b = none
      rw [lowH_in (K0.below b hb)]
      exact fsn b hb
    · have e' := lowH_in (H := H2) (low_out e)
      rw [← e']
      exact h1
    · obtain ⟨m', ⟨o, es, ep, ho, r⟩, hl⟩ := gI.loc
      refine ⟨m', ⟨o, es, ep, hL o ho, r⟩, fun i x v h1 h2 h3 => ?_⟩
      obtain ⟨u, ru, lk⟩ := hl i x v h1 h2 h3
      refine ⟨u, ru, ?_⟩
      rcases lk with lk | ⟨lk, _⟩
      · exact .inl lk
      · rcases lk with lk | lk
        · exact absurd lk (K0.nokind x).1
        · exact absurd lk (K0.nokind x).2
    · rw [show (G.X s2 H2 (G.n0 :: ip.map (·.1))).env.cells.lookup x = none from K0.nocell x] at e
      cases e
    · rw [show (G.X s2 H2 (G.n0 :: ip.map (·.1))).env.cells.lookup x = none from K0.nocell x] at e
      cases e
    · (rcases List.mem_append.mp hp with hp | hp)
      · obtain ⟨h1, h2, h3, h4, h5⟩ := of_keepers hp
        refine ⟨h4, h2, fun z => h3 ?_, fun z => ?_, h5⟩
        · rw [z]
          exact List.mem_cons_self
        · exact absurd (K0.below p.1 z) (Nat.not_lt.mpr h1)
      · obtain ⟨k1, k2, k3, k4, k5⟩ := gI.pin p (List.mem_append_right _ hp)
        obtain ⟨f1, f2⟩ := hf p.1 (List.mem_cons_of_mem _ (List.mem_map.mpr ⟨p, hp, rfl⟩))
        exact ⟨f2 _ k1, f1.1, k3, k4, k5⟩
    · show HOk G.P G.w H2 s2.heap
      have := I2.hok
      rw [F.prog, F.w] at this
      exact this
  · have nO : a ∉ O := W1.disj a ha
    have := hm a ha
    cases q : H a with
    | none => rw [q] at this; exact this.elim
    | some o =>
      rw [sl.keep a o nO q, ← q]
      exact this
  · obtain ⟨_, ⟨o, _, _, ho, _⟩, _⟩ := gI.loc
    exact Heap.lt_size (hL o ho)
end
end Dt
namespace Dt
open PySem PySem.Spec PyProof.Rows L2 GenW
/-! ### a generator's statements -/
/-- where the code stands -/
structure GCd (G : Gp) (c : Code) (fs : List Frame) (gd : Bool → Bool) : Prop where
  over : G.A.over c fs = G.A.deeper G.env
  split : splitAtGen fs = none
  guard : (fs.any Frame.guarded) = false
  gd : gd false = false
/-- what follows -/
def GKd (G : Gp) (cl : Cl) (C : Cb) (ip : List (Addr × Obj)) (Φ : Hp → Prop) (c : Code) (fs : List Frame) (K : Flow → Sem PySem.Fin) (m : Nat) : Option Out → Prop
  | none => True
  | some (.nx sd) => ∀ s₀ O L σ H s, GI G cl C ip Φ s₀ m O L sd σ H s → Seg (model G.P G.w) G.A (GRd G cl C) (GYd G cl C) m s₀ c (K .next) fs s
  | some (.bk sd) => ∀ s₀ O L σ H s, GI G cl C ip Φ s₀ m O L sd σ H s → Seg (model G.P G.w) G.A (GRd G cl C) (GYd G cl C) m s₀ c (K .brk) fs s
  | some (.ct sd) => ∀ s₀ O L σ H s, GI G cl C ip Φ s₀ m O L sd σ H s → Seg (model G.P G.w) G.A (GRd G cl C) (GYd G cl C) m s₀ c (K .cont) fs s
  | some (.rt d sd) => ∀ s₀ O L σ H s v u, GB G C ip s₀ m O L σ H s → RelV v u → Rp G.K cl (hide O H) v d → Seg (model G.P G.w) G.A (GRd G cl C) (GYd G cl C) m s₀ c (K (.ret u)) fs s
  | some (.rf _ _) => False
def Mono (Φ : Hp → Prop) : Prop := ∀ V V', Same V V' → Φ V → Φ V'
def Items (C : Cb) (n : Nat) (zs : List D) : Prop := ∀ i d, zs[i]? = some d → C.item (n - i) = some d
structure GS (G : Gp) (cl : Cl) (st : Stmt) (F : GM) : Prop where
  px : Pfx F
  run : ∀ (C : Cb) (ip : List (Addr × Obj)) (Φ : Hp → Prop) (n : Nat) (s₀ : Shared) (c : Code) (fs : List Frame) (K : Flow → Sem PySem.Fin) (J : Value → Sem PySem.Fin) (gd : Bool → Bool) (lv : List Value → List Value) (s : Shared) (O L : List Addr) (sd : S) (σ : L2.St) (H : Hp) (zs : List D) (o : Option Out),
    C.Fits G → Mono Φ → GCd G c fs gd → 0 < n → GI G cl C ip Φ s₀ n O L sd σ H s → F n sd = ok (zs, o) → Items C n zs → GKd G cl C ip Φ c fs K (n - zs.length) o →
    Seg (model G.P G.w) G.A (GRd G cl C) (GYd G cl C) n s₀ c ((exec st G.env).wrap K J gd lv) fs s
structure GSs (G : Gp) (cl : Cl) (st : List Stmt) (F : GM) : Prop where
  px : Pfx F
  run : ∀ (C : Cb) (ip : List (Addr × Obj)) (Φ : Hp → Prop) (n : Nat) (s₀ : Shared) (c : Code) (fs : List Frame) (K : Flow → Sem PySem.Fin) (J : Value → Sem PySem.Fin) (gd : Bool → Bool) (lv : List Value → List Value) (s : Shared) (O L : List Addr) (sd : S) (σ : L2.St) (H : Hp) (zs : List D) (o : Option Out),
    C.Fits G → Mono Φ → GCd G c fs gd → 0 < n → GI G cl C ip Φ s₀ n O L sd σ H s → F n sd = ok (zs, o) → Items C n zs → GKd G cl C ip Φ c fs K (n - zs.length) o →
    Seg (model G.P G.w) G.A (GRd G cl C) (GYd G cl C) n s₀ c ((execs st G.env).wrap K J gd lv) fs s
section
variable {G : Gp} {cl : Cl} {st : Stmt} {rest : List Stmt} {ts : List Nat}
/-- the ends of a plain statement -/
def endsOf (G : Gp) (cl : Cl) (O L : List Addr) (H : Hp) : Out → Ends
  | .nx sd => { nx := fun σ' H' => ∃ L', Step (wg O) L H L' H' ∧ Wl G.K cl (wg O) L' sd σ' H', rt := fun _ _ => False }
  | .bk sd => { nx := fun _ _ => False, rt := fun _ _ => False, bk := fun σ' H' => ∃ L', Step (wg O) L H L' H' ∧ Wl G.K cl (wg O) L' sd σ' H' }
  | .ct sd => { nx := fun _ _ => False, rt := fun _ _ => False, ct := fun σ' H' => ∃ L', Step (wg O) L H L' H' ∧ Wl G.K cl (wg O) L' sd σ' H' }
  | .rt d sd => { nx := fun _ _ => False, rt := fun v H' => (∃ L', Step (wg O) L H L' H') ∧ Rp G.K cl (hide O H') v d }
  | .rf _ _ => { nx := fun _ _ => False, rt := fun _ _ => True }
theorem ends_post {O L : List Addr} {σ : L2.St} {H : Hp} (out : Out) : PostS G.K cl noW ts (wg O) L σ H (endsOf G cl O L H out) (ok out) := by
  cases out with
  | nx sd => exact fun L' σ' H' a b c => ⟨L', a, b⟩
  | bk sd => exact fun L' σ' H' a b c => ⟨L', a, b⟩
  | ct sd => exact fun L' σ' H' a b c => ⟨L', a, b⟩
  | rt d sd => exact fun L' σ' H' v a b c => ⟨⟨L', a⟩, c⟩
  | rf d sd => exact fun L' σ' H' p a b c e f => True.intro
theorem GIat.on {C : Cb} {ip : List (Addr × Obj)} {Φ : Hp → Prop} {s₀ s s' : Shared} {n : Nat} {O L L' : List Addr} {sd sd' : S} {σ σ' : L2.St} {H H' Hw : Hp} {fp : List Addr} {σc : L2.St} {Lw : List Addr} (hΦ : Mono Φ)
    (g : GIat G cl C ip Φ s₀ n O L sd σ H s Hw fp σc Lw) (I : Inv (G.X s₀ Hw fp) ip σ' H' s') (st : Step (wg O) L H L' H') (W : Wl G.K cl (wg O) L' sd' σ' H') : GIat G cl C ip Φ s₀ n O L' sd' σ' H' s' Hw fp σc Lw :=
  ⟨⟨g.cI, g.cn, g.fpo, g.n0, g.ips, I, g.st.trans st, g.mu, g.sz⟩, W, hΦ _ _ (st.seen g.W.sub) g.phi⟩
/-- what a statement's end tells -/
theorem after_plain {C : Cb} {ip : List (Addr × Obj)} {Φ : Hp → Prop} {s₀ s s' : Shared} {n : Nat} {O L : List Addr} {sd : S} {σ : L2.St} {H Hw : Hp} {fp : List Addr} {σc : L2.St} {Lw : List Addr} {c : Code} {fs : List Frame} {K : Flow → Sem PySem.Fin} {f : Flow} {out : Out} (hΦ : Mono Φ)
    (g : GIat G cl C ip Φ s₀ n O L sd σ H s Hw fp σc Lw) (k : GKd G cl C ip Φ c fs K n (some out)) (h : SP (G.X s₀ Hw fp) ip (endsOf G cl O L H out) f s') : Seg (model G.P G.w) G.A (GRd G cl C) (GYd G cl C) n s₀ c (K f) fs s' := by
  cases out with
  | nx sd' =>
    cases f with
    | next =>
      obtain ⟨σ', H', I', L', a, b⟩ := h
      exact k s₀ O L' σ' H' s' ⟨Hw, fp, σc, Lw, g.on hΦ I' a b⟩
    | brk => obtain ⟨_, _, _, q⟩ := h; exact q.elim
    | cont => obtain ⟨_, _, _, q⟩ := h; exact q.elim
    | ret u => obtain ⟨_, _, _, _, _, q⟩ := h; exact q.elim
  | bk sd' =>
    cases f with
    | brk =>
      obtain ⟨σ', H', I', L', a, b⟩ := h
      exact k s₀ O L' σ' H' s' ⟨Hw, fp, σc, Lw, g.on hΦ I' a b⟩
    | next => obtain ⟨_, _, _, q⟩ := h; exact q.elim
    | cont => obtain ⟨_, _, _, q⟩ := h; exact q.elim
    | ret u => obtain ⟨_, _, _, _, _, q⟩ := h; exact q.elim
  | ct sd' =>
    cases f with
    | cont =>
      obtain ⟨σ', H', I', L', a, b⟩ := h
      exact k s₀ O L' σ' H' s' ⟨Hw, fp, σc, Lw, g.on hΦ I' a b⟩
    | next => obtain ⟨_, _, _, q⟩ := h; exact q.elim
    | brk => obtain ⟨_, _, _, q⟩ := h; exact q.elim
    | ret u => obtain ⟨_, _, _, _, _, q⟩ := h; exact q.elim
  | rt d sd' =>
    cases f with
    | ret u =>
      obtain ⟨v, σ', H', I', r, ⟨L', a⟩, b⟩ := h
      exact k s₀ O L' σ' H' s' v u ⟨Hw, fp, σc, Lw, g.cI, g.cn, g.fpo, g.n0, g.ips, I', g.st.trans a, g.mu, g.sz⟩ r b
    | next => obtain ⟨_, _, _, q⟩ := h; exact q.elim
    | brk => obtain ⟨_, _, _, q⟩ := h; exact q.elim
    | cont => obtain ⟨_, _, _, q⟩ := h; exact q.elim
  | rf d sd' => exact k.elim
/-- nothing is handed out by it -/
theorem gs_pl {F : S → M Out} (h : ∀ s H fp, PS (G.X s H fp) st (TSof G.K cl noW ts F)) : GS G cl st (gPl F) := by
  refine ⟨px_pl, fun C ip Φ n s₀ c fs K J gd lv s O L sd σ H zs o F0 hΦ g hn hI e hi k => ?_⟩
  obtain ⟨out, e1, e2⟩ := bd_of e
  cases e2
  obtain ⟨Hw, fp, σc, Lw, gi⟩ := hI
  refine seg_wrap ?_
  rw [g.over]
  have t : TSof G.K cl noW ts F (endsOf G cl O L H out) σ H := ⟨wg O, L, sd, gi.W, by rw [e1]; exact ends_post out⟩
  exact wpAny_mono ((h s₀ Hw fp).run ip s σ H _ gi.I t) (fun f s' hs => after_plain hΦ gi k hs) fun x s' hx => hx.elim
theorem gss_pl {F : S → M Out} (h : ∀ s H fp, PSs (G.X s H fp) rest (TSof G.K cl noW ts F)) : GSs G cl rest (gPl F) := by
  refine ⟨px_pl, fun C ip Φ n s₀ c fs K J gd lv s O L sd σ H zs o F0 hΦ g hn hI e hi k => ?_⟩
  obtain ⟨out, e1, e2⟩ := bd_of e
  cases e2
  obtain ⟨Hw, fp, σc, Lw, gi⟩ := hI
  refine seg_wrap ?_
  rw [g.over]
  have t : TSof G.K cl noW ts F (endsOf G cl O L H out) σ H := ⟨wg O, L, sd, gi.W, by rw [e1]; exact ends_post out⟩
  exact wpAny_mono ((h s₀ Hw fp).run ip s σ H _ gi.I t) (fun f s' hs => after_plain hΦ gi k hs) fun x s' hx => hx.elim
theorem gss_nil : GSs G cl [] (gPl sNil) := by
  refine ⟨px_pl, fun C ip Φ n s₀ c fs K J gd lv s O L sd σ H zs o F0 hΦ g hn hI e hi k => ?_⟩
  obtain ⟨out, e1, e2⟩ := bd_of e
  cases e1
  cases e2
  exact seg_execs_nil (k s₀ O L σ H s hI)
theorem Items.fst {C : Cb} {n : Nat} {as bs : List D} (h : Items C n (as ++ bs)) : Items C n as := fun i d e => h i d (by
  rw [List.getElem?_append_left (List.getElem?_eq_some_iff.mp e).1]
  exact e)
theorem Items.snd {C : Cb} {n : Nat} {as bs : List D} (h : Items C n (as ++ bs)) : Items C (n - as.length) bs := fun i d e => by
  have := h (as.length + i) d (by
    rw [List.getElem?_append_right (Nat.le_add_right _ _), Nat.add_sub_cancel_left]
    exact e)
  rw [show n - as.length - i = n - (as.length + i) by omega]
  exact this
theorem gss_cons {A B : GM} (a : GS G cl st A) (b : GSs G cl rest B) : GSs G cl (st :: rest) (gSq A B) := by
  refine ⟨px_sq a.px b.px, fun C ip Φ n s₀ c fs K J gd lv s O L sd σ H zs o F0 hΦ g hn hI e hi k => ?_⟩
  refine seg_execs_cons ?_
  obtain ⟨⟨as, x⟩, e1, e2⟩ := bd_of e
  have px := a.px n sd as x hn e1
  cases x with
  | none =>
    have e2 : ok (as, none) = ok (zs, o) := e2
    cases e2
    exact a.run C ip Φ n s₀ c fs _ J gd lv s O L sd σ H _ none F0 hΦ g hn hI e1 hi True.intro
  | some out =>
    have l1 := px.less (by simp)
    cases out with
    | nx s1 =>
      obtain ⟨⟨bs, y⟩, e3, e2⟩ := bd_of e2
      cases e2
      refine a.run C ip Φ n s₀ c fs _ J gd lv s O L sd σ H as _ F0 hΦ g hn hI e1 hi.fst fun s₀' O' L' σ' H' s' hI' => ?_
      refine b.run C ip Φ (n - as.length) s₀' c fs K J gd lv s' O' L' s1 σ' H' bs y F0 hΦ g (by omega) hI' e3 hi.snd ?_
      rw [List.length_append, ← Nat.sub_sub] at k
      exact k
    | bk s1 =>
      have e2 : ok (as, some (.bk s1)) = ok (zs, o) := e2
      cases e2
      exact a.run C ip Φ n s₀ c fs _ J gd lv s O L sd σ H _ _ F0 hΦ g hn hI e1 hi k
    | ct s1 =>
      have e2 : ok (as, some (.ct s1)) = ok (zs, o) := e2
      cases e2
      exact a.run C ip Φ n s₀ c fs _ J gd lv s O L sd σ H _ _ F0 hΦ g hn hI e1 hi k
    | rt d s1 =>
      have e2 : ok (as, some (.rt d s1)) = ok (zs, o) := e2
      cases e2
      exact a.run C ip Φ n s₀ c fs _ J gd lv s O L sd σ H _ _ F0 hΦ g hn hI e1 hi k
    | rf d s1 =>
      have e2 : ok (as, some (.rf d s1)) = ok (zs, o) := e2
      cases e2
      exact k.elim
theorem gss_one {A : GM} (a : GS G cl st A) : GSs G cl [st] A := by
  refine ⟨a.px, fun C ip Φ n s₀ c fs K J gd lv s O L sd σ H zs o F0 hΦ g hn hI e hi k => ?_⟩
  refine seg_execs_cons ?_
  refine a.run C ip Φ n s₀ c fs _ J gd lv s O L sd σ H zs o F0 hΦ g hn hI e hi ?_
  match o, k with
  | none, k => exact k
  | some (.nx s1), k => exact fun s₀' O' L' σ' H' s' hI' => seg_execs_nil (k s₀' O' L' σ' H' s' hI')
  | some (.bk s1), k => exact k
  | some (.ct s1), k => exact k
  | some (.rt d s1), k => exact k
  | some (.rf d s1), k => exact k
theorem gs_if {ce : Expr} {a b : List Stmt} {pos : Pos} {c0 : S → M (Bool × S)} {A B : GM} (hc : ∀ s H fp, PT (G.X s H fp) ce (TTof G.K cl noW c0)) (ha : GSs G cl a A) (hb : GSs G cl b B) : GS G cl (.If ce a b pos) (gIf c0 A B) := by
  refine ⟨px_if ha.px hb.px, fun C ip Φ n s₀ c fs K J gd lv s O L sd σ H zs o F0 hΦ g hn hI e hi k => ?_⟩
  obtain ⟨⟨r, s1⟩, e1, e2⟩ := bd_of e
  obtain ⟨Hw, fp, σc, Lw, gi⟩ := hI
  rw [exec_If]
  (refine seg_bind_wrap (wpAny_standAt ?_))
  refine seg_bind_wrap ?_
  rw [g.over]
  have t : TTof G.K cl noW c0 σ H (fun b H' => b = r ∧ Step (wg O) L H L H' ∧ Wl G.K cl (wg O) L s1 σ H') := ⟨wg O, L, sd, gi.W, by rw [e1]; exact fun H' a b => ⟨rfl, a, b⟩⟩
  refine wpAny_mono ((hc s₀ Hw fp).run ip s σ H _ gi.I t) (fun f s' hs => ?_) fun x s' hx => hx.elim
  obtain ⟨H', I', rfl, a', b'⟩ := hs
  have gi' := gi.on hΦ I' a' b'
  cases f with
  | true => exact ha.run C ip Φ n s₀ c fs K J gd lv s' O L s1 σ H' zs o F0 hΦ g hn ⟨Hw, fp, σc, Lw, gi'⟩ e2 hi k
  | false => exact hb.run C ip Φ n s₀ c fs K J gd lv s' O L s1 σ H' zs o F0 hΦ g hn ⟨Hw, fp, σc, Lw, gi'⟩ e2 hi k
/-- only what the slots own -/
theorem Wl.shrink {K : PySem.W.Frag} {w : Wf} {L : List Addr} {sd : S} {σ : L2.St} {H : Hp} (W : Wl K cl w L sd σ H) : ∃ L1, (∀ a ∈ L1, a ∈ L) ∧ Wl K cl w L1 sd σ H ∧ ∀ a ∈ L1, Mut (H a) := by
  classical
  have mem : ∀ {b}, b ∈ L.filter (fun a => decide (∃ (i : Nat) (d : D), sd[i]? = some (Sl.own d) ∧ σ[i]? = some (some (V.ref a)))) ↔ b ∈ L ∧ ∃ (i : Nat) (d : D), sd[i]? = some (Sl.own d) ∧ σ[i]? = some (some (V.ref b)) := by intro b; simp
  have sm : Same (hide (L ++ w.O0) H) (hide (L.filter (fun a => decide (∃ (i : Nat) (d : D), sd[i]? = some (Sl.own d) ∧ σ[i]? = some (some (V.ref a)))) ++ w.O0) H) := hide_sub fun b hb => by
    rcases List.mem_append.mp hb with z | z
    · exact List.mem_append_left _ (mem.mp z).1
    · exact List.mem_append_right _ z
  refine ⟨_, fun a ha => (mem.mp ha).1, ⟨W.keep, fun b hb => W.fresh b (mem.mp hb).1, fun b hb => W.alive b ?_, fun b hb => W.disj b (mem.mp hb).1, W.sub, ⟨fun i d e => ?_, fun i d e => ?_, fun i d e => ?_, W.st.inj, W.st.ioj, W.st.len⟩⟩, fun a ha => ?_⟩
  · rcases List.mem_append.mp hb with z | z
    · exact List.mem_append_left _ (mem.mp z).1
    · exact List.mem_append_right _ z
  · obtain ⟨v, h1, h2⟩ := W.st.val i d e
    exact ⟨v, h1, h2.mono sm⟩
  · obtain ⟨a, h1, h2, h3⟩ := W.st.own i d e
    exact ⟨a, h1, mem.mpr ⟨h2, i, d, e, h1⟩, h3.move rfl sm⟩
  · obtain ⟨h1, h2, h3⟩ := W.st.io i d e
    exact ⟨h1, h2, h3.move rfl sm⟩
  · obtain ⟨_, i, d, h1, h2⟩ := mem.mp ha
    obtain ⟨a', q1, _, q3⟩ := W.st.own i d h1
    rw [h2] at q1
    cases q1
    cases d with
    | lst ds => obtain ⟨xs, e, _⟩ := q3; rw [e]; exact True.intro
    | dic ks ds => obtain ⟨kvs, e, _⟩ := q3; rw [e]; exact True.intro
    | obj c ds => obtain ⟨_, _, _, _, _, e, _⟩ := q3; rw [e]; exact True.intro
    | reg ds => obtain ⟨_, e, _⟩ := q3; rw [e]; exact True.intro
    | _ => exact q3.elim
theorem gs_yl {e : Expr} {yp pos : Pos} {f : S → M (D × S)} (K0 : G.Ok) (he : ∀ s H fp, PE (G.X s H fp) e (TEof G.K cl noW f)) (hco : G.scope.isCoroutine = false) (hi0 : interactive G.env = false) : GS G cl (.Expr (.Yield (some e) yp) pos) (gYl f) := by
  refine ⟨px_yl, fun C ip Φ n s₀ c fs K J gd lv s O L sd σ H zs o F0 hΦ g hn hI e1 hi k => ?_⟩
  obtain ⟨⟨d, s1⟩, e2, e3⟩ := bd_of e1
  cases e3
  (obtain ⟨m, rfl⟩ : ∃ m, n = m + 1 := ⟨n - 1, by omega⟩)
  obtain ⟨Hw, fp, σc, Lw, gi⟩ := hI
  refine seg_Expr_Yield g.split g.gd g.guard ?_ hco hi0
  rw [g.over]
  have t : TEof G.K cl noW f σ H (fun v H' => Step (wg O) L H L H' ∧ Wl G.K cl (wg O) L s1 σ H' ∧ Rp G.K cl (hide (L ++ O) H') v d) := ⟨wg O, L, sd, gi.W, by rw [e2]; exact fun v H' a b c => ⟨a, b, c⟩⟩
  refine wpAny_mono ((he s₀ Hw fp).run ip s σ H _ gi.I t) (fun u s' hs => ?_) fun x s' hx => hx.elim
  obtain ⟨v, H', I', rv, a', b', rp⟩ := hs
  have gi' := gi.on hΦ I' a' b'
  obtain ⟨L1, hs1, W1, mu⟩ := b'.shrink
  have sm : Same (hide (L ++ O) H') (hide (L1 ++ O) H') := hide_sub fun b hb => by
    rcases List.mem_append.mp hb with z | z
    · exact List.mem_append_left _ (hs1 b z)
    · exact List.mem_append_right _ z
  have ph := hΦ _ _ sm gi'.phi
  have st1 : Step (wg O) Lw Hw L1 H' := ⟨gi'.st.keep, gi'.st.alv, fun a ha => gi'.st.new a (hs1 a ha)⟩
  have gi1 : GIat G cl C ip Φ s₀ (m + 1) O L1 s1 σ H' s' Hw fp σc Lw := ⟨⟨gi'.cI, gi'.cn, gi'.fpo, gi'.n0, gi'.ips, gi'.I, st1, gi'.mu, gi'.sz⟩, W1, ph⟩
  intro kap hk
  refine ⟨O, L1, s1, σ, H', ip, Φ, v, d, ⟨Hw, fp, σc, Lw, gi1⟩, rv, hi 0 d rfl, rp.mono sm, mu, fun hm s2 σ2 H2 O2 I2 cn sl hf => ?_⟩
  refine hk .none s2 ?_
  have k : GKd G cl C ip Φ c fs K m (if m + 1 ≤ 1 then none else some (.nx s1)) := k
  rw [if_neg (by omega)] at k
  exact k s2 O2 L1 σ H2 s2 ⟨_, _, _, _, gi1.wake F0 K0 W1 mu ph hΦ I2 cn sl hf⟩
theorem gc_loop {c c' : Code} {fs : List Frame} {gd : Bool → Bool} {k : Result → Sem PySem.Fin} {l kp : List Value} {p : Pos} (g : GCd G c fs gd) (hw : c'.weight = 0) (hu : c'.cUnits = 0) : GCd G c' (.ret k none (gd false) l c p kp :: fs) id where
  over :=
        (over_loop hw hu).trans g.over
  split := by
    (show (splitAtGen fs).map _ = none)
    rw [g.split]
    rfl
  guard := by
    (show (gd false || fs.any Frame.guarded) = false)
    rw [g.gd, g.guard]
    rfl
  gd := rfl
end
end Dt
namespace Dt
open PySem PySem.Spec PyProof.Rows L2 GenW
/-- an own list is seen from now on -/
theorem Wl.pub {K : PySem.W.Frag} {cl : Cl} {w : Wf} {L : List Addr} {sd : S} {σ : L2.St} {H : Hp} {i0 : Nat} {d : D} (W : Wl K cl w L sd σ H) (e : sd[i0]? = some (.own d)) : ∃ L', Wl K cl w L' (sd.set i0 (.val d)) σ H ∧ ∀ a ∈ L', a ∈ L := by
  obtain ⟨a, h1, h2, h3⟩ := W.st.own i0 d e
  have mem : ∀ {b}, b ∈ L.filter (fun x => x ≠ a) ↔ b ∈ L ∧ b ≠ a := by intro b; simp
  have sm : Same (hide (L ++ w.O0) H) (hide (L.filter (fun x => x ≠ a) ++ w.O0) H) := hide_sub fun b hb => by
    rcases List.mem_append.mp hb with z | z
    · exact List.mem_append_left _ (mem.mp z).1
    · exact List.mem_append_right _ z
  have hlen : i0 < sd.length := (List.getElem?_eq_some_iff.mp e).1
  have na : a ∉ L.filter (fun x => x ≠ a) ++ w.O0 := fun z => by
    rcases List.mem_append.mp z with z | z
    · exact (mem.mp z).2 rfl
    · exact W.disj a h2 z
  have get : ∀ {j : Nat} {x : Sl}, j ≠ i0 → (sd.set i0 (.val d))[j]? = some x → sd[j]? = some x := fun h e => by rwa [List.getElem?_set_ne (Ne.symm h)] at e
  have self : ∀ {x : Sl}, (sd.set i0 (.val d))[i0]? = some x → x = .val d := fun {x} q => by
    rw [List.getElem?_set_self hlen] at q; cases q; rfl
  refine ⟨L.filter (fun x => x ≠ a), ⟨W.keep, fun b hb => W.fresh b (mem.mp hb).1, fun b hb => W.alive b ?_, fun b hb => W.disj b (mem.mp hb).1, W.sub, ⟨fun j d' q => ?_, fun j d' q => ?_, fun j d' q => ?_, fun j k d1 d2 b q1 q2 => ?_, fun j k d1 d2 q1 q2 => ?_, by simpa using W.st.len⟩⟩, fun b hb => (mem.mp hb).1⟩
  · rcases List.mem_append.mp hb with z | z
    · exact List.mem_append_left _ (mem.mp z).1
    · exact List.mem_append_right _ z
  · by_cases hj : j = i0
    · subst hj
      cases self q
      exact ⟨_, h1, h3.rp na sm⟩
    · obtain ⟨v, p1, p2⟩ := W.st.val j d' (get hj q)
      exact ⟨v, p1, p2.mono sm⟩
  · by_cases hj : j = i0
    · subst hj; cases self q
    · obtain ⟨b, p1, p2, p3⟩ := W.st.own j d' (get hj q)
      refine ⟨b, p1, mem.mpr ⟨p2, ?_⟩, p3.move rfl sm⟩
      rintro rfl
      exact hj (W.st.inj j i0 d' d b (get hj q) e p1 h1)
  · by_cases hj : j = i0
    · subst hj; cases self q
    · obtain ⟨p1, p2, p3⟩ := W.st.io j d' (get hj q)
      exact ⟨p1, p2, p3.move rfl sm⟩
  · by_cases hj : j = i0
    · subst hj; cases self q1
    · by_cases hk : k = i0
      · subst hk; cases self q2
      · exact W.st.inj j k d1 d2 b (get hj q1) (get hk q2)
  · by_cases hj : j = i0
    · subst hj; cases self q1
    · by_cases hk : k = i0
      · subst hk; cases self q2
      · exact W.st.ioj j k d1 d2 (get hj q1) (get hk q2)
section
variable {G : Gp} {cl : Cl} {st : Stmt} {rest : List Stmt} {ts : List Nat}
theorem gs_while {test : Expr} {body : List Stmt} {pos : Pos} {c0 : S → M (Bool × S)} {B : GM} (hc : ∀ s H fp, PT (G.X s H fp) test (TTof G.K cl noW c0)) (hb : GSs G cl body B) : GS G cl (.While test body [] pos) (gWhile c0 B) := by
  refine ⟨px_while hb.px, fun C ip Φ n s₀ c fs K J gd lv s O L sd σ H zs o F0 hΦ g hn hI e hi k => ?_⟩
  obtain ⟨k0, e⟩ := of_gWhile e
  refine seg_While fun p => ?_
  have gl := fun (kk : Result → Sem PySem.Fin) => gc_loop (k := kk) (c' := .whileLoop test body [] G.env) (l := lv []) (kp := []) (p := p) g rfl rfl
  have loop : ∀ (k0 n : Nat) (s₀ s : Shared) (O L : List Addr) (sd : S) (σ : L2.St) (H : Hp) (zs : List D) (o : Option Out), 0 < n → GI G cl C ip Φ s₀ n O L sd σ H s → gWhileN c0 B k0 n sd = ok (zs, o) → Items C n zs → GKd G cl C ip Φ c fs K (n - zs.length) o →
      Seg (model G.P G.w) G.A (GRd G cl C) (GYd G cl C) n s₀ (.whileLoop test body [] G.env) ((model G.P G.w).den (.whileLoop test body [] G.env))
        (.ret (fun r => ((match r with | .ok f => (.pure f : Sem Flow) | .error e => .raise e).onRaise (cameBack G.env)).wrap K J gd lv) none (gd false) (lv []) c p [] :: fs) s := by
    intro k0
    induction k0 with
    | zero => intro n s₀ s O L sd σ H zs o hn hI e; cases e
    | succ k0 ih =>
      intro n s₀ s O L sd σ H zs o hn hI e hi k
      obtain ⟨⟨r, s1⟩, e1, e2⟩ := bd_of e
      obtain ⟨Hw, fp, σc, Lw, gi⟩ := hI
      refine seg_whileLoop ?_
      rw [(gl _).over]
      have t : TTof G.K cl noW c0 σ H (fun b H' => b = r ∧ Step (wg O) L H L H' ∧ Wl G.K cl (wg O) L s1 σ H') := ⟨wg O, L, sd, gi.W, by rw [e1]; exact fun H' a b => ⟨rfl, a, b⟩⟩
      refine wpAny_mono ((hc s₀ Hw fp).run ip s σ H _ gi.I t) (fun b s' hs => ?_) fun x s' hx => hx.elim
      obtain ⟨H', I', rfl, a', b'⟩ := hs
      have gi' := gi.on hΦ I' a' b'
      cases b with
      | false =>
        have e2 : ok (([] : List D), some (Out.nx s1)) = ok (zs, o) := e2
        cases e2
        (rw [if_neg Bool.false_ne_true])
        refine seg_execs_nil ?_
        exact seg_leaf (.ok .next) (k s₀ O L σ H' s' ⟨Hw, fp, σc, Lw, gi'⟩)
      | true =>
        rw [if_pos rfl]
        obtain ⟨⟨as, x⟩, e3, e4⟩ := bd_of (m := B n s1) e2
        have px := hb.px n s1 as x hn e3
        cases x with
        | none =>
          have e4 : ok (as, none) = ok (zs, o) := e4
          cases e4
          exact hb.run C ip Φ n s₀ _ _ _ _ id id s' O L s1 σ H' _ none F0 hΦ (gl _) hn ⟨Hw, fp, σc, Lw, gi'⟩ e3 hi True.intro
        | some out =>
          have l1 := px.less (by simp)
          cases out with
          | nx s2 =>
            obtain ⟨⟨bs, y⟩, e5, e6⟩ := bd_of e4
            cases e6
            refine hb.run C ip Φ n s₀ _ _ _ _ id id s' O L s1 σ H' as _ F0 hΦ (gl _) hn ⟨Hw, fp, σc, Lw, gi'⟩ e3 hi.fst fun s₀' O' L' σ' H'' s'' hI' => ?_
            refine seg_again rfl (ih (n - as.length) s₀' s'' O' L' s2 σ' H'' bs y (by omega) hI' e5 hi.snd ?_)
            rw [List.length_append, ← Nat.sub_sub] at k
            exact k
          | ct s2 =>
            obtain ⟨⟨bs, y⟩, e5, e6⟩ := bd_of e4
            cases e6
            refine hb.run C ip Φ n s₀ _ _ _ _ id id s' O L s1 σ H' as _ F0 hΦ (gl _) hn ⟨Hw, fp, σc, Lw, gi'⟩ e3 hi.fst fun s₀' O' L' σ' H'' s'' hI' => ?_
            refine seg_again rfl (ih (n - as.length) s₀' s'' O' L' s2 σ' H'' bs y (by omega) hI' e5 hi.snd ?_)
            rw [List.length_append, ← Nat.sub_sub] at k
            exact k
          | bk s2 =>
            have e4 : ok (as, some (.nx s2)) = ok (zs, o) := e4
            cases e4
            exact hb.run C ip Φ n s₀ _ _ _ _ id id s' O L s1 σ H' _ _ F0 hΦ (gl _) hn ⟨Hw, fp, σc, Lw, gi'⟩ e3 hi fun s₀' O' L' σ' H'' s'' hI' => seg_leaf (.ok .next) (k s₀' O' L' σ' H'' s'' hI')
          | rt d s2 =>
            have e4 : ok (as, some (.rt d s2)) = ok (zs, o) := e4
            cases e4
            exact hb.run C ip Φ n s₀ _ _ _ _ id id s' O L s1 σ H' _ _ F0 hΦ (gl _) hn ⟨Hw, fp, σc, Lw, gi'⟩ e3 hi fun s₀' O' L' σ' H'' s'' v u hI' r1 r2 => seg_leaf (.ok (.ret u)) (k s₀' O' L' σ' H'' s'' v u hI' r1 r2)
          | rf d s2 =>
            have e4 : ok (as, some (.rf d s2)) = ok (zs, o) := e4
            cases e4
            exact k.elim
  exact loop k0 n s₀ s O L sd σ H zs o hn hI e hi k
theorem gs_pub {A : GM} (i : Nat) (a : GSs G cl rest A) : GSs G cl rest (gPub i A) := by
  refine ⟨px_pub a.px, fun C ip Φ n s₀ c fs K J gd lv s O L sd σ H zs o F0 hΦ g hn hI e hi k => ?_⟩
  obtain ⟨Hw, fp, σc, Lw, gi⟩ := hI
  by_cases q : ∃ d, sd[i]? = some (.own d)
  · obtain ⟨d, q⟩ := q
    obtain ⟨L', W', hs⟩ := gi.W.pub q
    have ep : pubS i sd = sd.set i (.val d) := by
      unfold pubS
      rw [q]
    unfold gPub at e
    rw [ep] at e
    have sm : Same (hide (L ++ O) H) (hide (L' ++ O) H) := hide_sub fun b hb => by
      rcases List.mem_append.mp hb with z | z
      · exact List.mem_append_left _ (hs b z)
      · exact List.mem_append_right _ z
    have st : Step (wg O) Lw Hw L' H := ⟨gi.st.keep, gi.st.alv, fun a ha => gi.st.new a (hs a ha)⟩
    exact a.run C ip Φ n s₀ c fs K J gd lv s O L' _ σ H zs o F0 hΦ g hn ⟨Hw, fp, σc, Lw, ⟨⟨gi.cI, gi.cn, gi.fpo, gi.n0, gi.ips, gi.I, st, gi.mu, gi.sz⟩, W', hΦ _ _ sm gi.phi⟩⟩ e hi k
  · have ep : pubS i sd = sd := by
      unfold pubS
      split
      · next d z => exact absurd ⟨d, z⟩ q
      · rfl
    unfold gPub at e
    rw [ep] at e
    exact a.run C ip Φ n s₀ c fs K J gd lv s O L sd σ H zs o F0 hΦ g hn ⟨Hw, fp, σc, Lw, gi⟩ e hi k
end
section
variable {M : Model} {A : Around} {R : GenEnd} {Y : Protocol} {n : Nat} {s₀ s : Shared} {c : Code} {fs : List Frame} {K : Flow → Sem PySem.Fin} {J : Value → Sem PySem.Fin} {gd : Bool → Bool} {lv : List Value → List Value} {tg iter : Expr} {body : List Stmt} {env : Env} {pos : Pos}
theorem seg_For (hs : ∀ x, foldedSetIterable iter env x = pure x)
    (h : wpAny M (A.over c fs) (eval iter env) (fun x s1 => wpAny M (A.over c fs) (pyIter x) (fun it s2 => ∀ p, Seg M A R Y n s₀ (.forLoop tg it body [] env) (M.den (.forLoop tg it body [] env))
      (.ret (fun r => ((match r with | .ok f => (.pure f : Sem Flow) | .error e => .raise e).onRaise (cameBack env)).wrap K J gd lv) none (gd false) (lv []) c p [] :: fs) s2) (fun _ _ => False) s1) (fun _ _ => False) s) :
    Seg M A R Y n s₀ c ((exec (.For tg iter body [] pos) env).wrap K J gd lv) fs s := by
  rw [exec_For]
  (refine seg_bind_wrap (wpAny_standAt ?_))
  refine seg_bind_wrap (wpAny_mono h (fun x s1 h1 => ?_) fun _ _ z => z.elim)
  refine seg_bind_wrap (wpAny_of_eq (hs x) ?_)
  (refine seg_bind_wrap (wpAny_standAt ?_))
  refine seg_bind_wrap (wpAny_holding (wpAny_mono h1 (fun it s2 h2 => ?_) fun _ _ z => z.elim))
  exact seg_call h2
theorem seg_forLoop {P : Program} {w : World} {it : Value} (h : wpAny (model P w) (A.over (.forLoop tg it body [] env) fs) (pyNext it) (fun r s1 => match r with
      | none => Seg (model P w) A R Y n s₀ (.block [] env) (.pure (.done .next)) fs s1
      | some v => wpAny (model P w) (A.over (.forLoop tg it body [] env) fs) (letOwnedTupleGo tg it v) (fun _ s2 => wpAny (model P w) (A.over (.forLoop tg it body [] env) fs) (assign tg env v) (fun _ s3 =>
        Seg (model P w) A R Y n s₀ (.forLoop tg it body [] env) ((execs body env).wrap (fun f => (match f with
          | .next | .cont => again (.forLoop tg it body [] env)
          | .brk => (pure (.done .next) : Sem PySem.Fin)
          | .ret v => pure (.done (.ret v))).wrap .pure (fun e => (do noteFrame e env; theTreesLotGoes e : Sem Unit).bind fun _ => .raise e) id id) (fun e => (Sem.raise e : Sem PySem.Fin).wrap .pure (fun e => (do noteFrame e env; theTreesLotGoes e : Sem Unit).bind fun _ => .raise e) id id) (fun g => id (id g)) fun l => id (id l)) fs s3) (fun _ _ => False) s2) (fun _ _ => False) s1) (fun _ _ => False) s) :
    Seg (model P w) A R Y n s₀ (.forLoop tg it body [] env) ((model P w).den (.forLoop tg it body [] env)) fs s := by
  show Seg _ A R Y n s₀ _ ((forTurn tg it body [] env).onRaise (fun x => do noteFrame x env; theTreesLotGoes x)) fs s
  rw [Sem.onRaise_eq_wrap]
  unfold forTurn
  (refine seg_bind_wrap (wpAny_standAt ?_))
  refine seg_bind_wrap (wpAny_onRaise (wpAny_mono h (fun r s1 h1 => ?_) fun _ _ z => z.elim))
  cases r with
  | none => exact seg_again rfl h1
  | some v =>
    refine seg_bind_wrap (wpAny_mono h1 (fun _ s2 h2 => ?_) fun _ _ z => z.elim)
    refine seg_bind_wrap (wpAny_mono h2 (fun _ s3 h3 => ?_) fun _ _ z => z.elim)
    rw [Sem.bind_eq_wrap', Sem.wrap_wrap]
    exact h3
end
end Dt
namespace Dt
open PySem PySem.Spec PyProof.Rows L2 GenW
section
variable {G : Gp} {cl : Cl} {st : Stmt} {rest : List Stmt} {ts us : List Nat}
/-- an iterator's own addresses -/
structure Fpi (G : Gp) (ip : List (Addr × Obj)) (s₀ : Shared) (Hw : Hp) (fp : List Addr) (H : Hp) (b : Addr) : Prop where
  no : H b = none
  nl : b ≠ G.n0
  nf : b ∉ frs G.outer
  le : G.n0 ≤ b
  ni : ∀ p ∈ ip, p.1 ≠ b
  wh : ∀ q ∈ keepers s₀.heap Hw G.n0 fp, q.1 ≠ b
theorem Fpi.ok {ip : List (Addr × Obj)} {s₀ : Shared} {fp : List Addr} {H Hw : Hp} {b : Addr} (K0 : G.Ok) (h : Fpi G ip s₀ Hw fp H b) : FpOk (G.X s₀ Hw fp) ip H b := by
  refine ⟨h.no, h.nl, h.nf, .inr ?_, fun x c e => ?_, fun p hp => ?_⟩
  · show (low s₀.heap G.n0).objs.size ≤ b
    rw [low_size]
    exact Nat.le_trans (Nat.min_le_left _ _) h.le
  · rw [show (G.X s₀ Hw fp).env.cells.lookup x = none from K0.nocell x] at e
    cases e
  · rcases List.mem_append.mp hp with z | z
    · exact h.wh p z
    · exact h.ni p z
theorem Fpi.of {ip : List (Addr × Obj)} {s₀ : Shared} {fp : List Addr} {H Hw : Hp} {b : Addr} (hz : G.n0 < s₀.heap.objs.size) (h : FpOk (G.X s₀ Hw fp) ip H b) : Fpi G ip s₀ Hw fp H b := by
  obtain ⟨h0, h1, h2, h3, _, h5⟩ := h
  refine ⟨h0, h1, h2, ?_, fun p hp => h5 p (List.mem_append_right _ hp), fun p hp => h5 p (List.mem_append_left _ hp)⟩
  rcases h3 with z | z
  · exact absurd z (by simp [Gp.X])
  · have z : (low s₀.heap G.n0).objs.size ≤ b := z
    rw [low_size, Nat.min_eq_left (Nat.le_of_lt hz)] at z
    exact z
theorem gs_for {tg iter : Expr} {body : List Stmt} {pos : Pos} {fi : S → M (List D × S)} {T : D → S → M S} {B : GM} (K0 : G.Ok) (hi : ∀ s H fp, PI (G.X s H fp) tg iter (TIof G.K cl noW fi)) (hg : ∀ s H fp, PG (G.X s H fp) tg (TGof G.K cl noW us T)) (hb : GSs G cl body B)
    (hs : ∀ v, foldedSetIterable iter G.env v = pure v := by intro _; rfl) : GS G cl (.For tg iter body [] pos) (gFor fi T B) := by
  refine ⟨px_for hb.px, fun C ip Φ n s₀ c fs K J gd lv s O L sd σ H zs o F0 hΦ g hn hI e hit k => ?_⟩
  obtain ⟨⟨all, sd1⟩, e1, e⟩ := bd_of (m := fi sd) e
  obtain ⟨Hw, fp, σc, Lw, gi⟩ := hI
  refine seg_For hs ?_
  rw [g.over]
  have t : TIof G.K cl noW fi σ H (fun J' H' => Step (wg O) L H L H' ∧ Wl G.K cl (wg O) L sd1 σ H' ∧ ItOK G.K cl (L ++ O) H' all J') := ⟨wg O, L, sd, gi.W, by rw [e1]; exact fun J' H' a b c => ⟨a, b, c⟩⟩
  refine wpAny_mono ((hi s₀ Hw fp).run ip s σ H _ gi.I t) (fun v s1 hs => ?_) fun x s' hx => hx.elim
  refine wpAny_mono hs (fun itv s2 hs => ?_) fun x s' hx => hx.elim
  obtain ⟨it, fpi, tn, J', H1, rfl, I1, T0, st0, fo, a1, b1, io⟩ := hs
  have gi1 := gi.on hΦ I1 a1 b1
  intro p
  have gl := fun (kk : Result → Sem PySem.Fin) => gc_loop (k := kk) (c' := .forLoop tg (.ref it) body [] G.env) (l := lv []) (kp := []) (p := p) g rfl rfl
  -- what holds at the loop's head
  have hΦ' : Mono fun V => Φ V ∧ Same (hide (L ++ O) H1) V := fun V V' sm h => ⟨hΦ V V' sm h.1, h.2.trans sm⟩
  have drop : ∀ {ip : List (Addr × Obj)} {s₀ s : Shared} {n : Nat} {O' L' : List Addr} {sd : S} {σ : L2.St} {H : Hp}, GI G cl C ip (fun V => Φ V ∧ Same (hide (L ++ O) H1) V) s₀ n O' L' sd σ H s → GI G cl C ip Φ s₀ n O' L' sd σ H s := fun {ip s₀ s n O' L' sd σ H} h => by
    obtain ⟨Hw, fp, σc, Lw, gi⟩ := h
    exact ⟨Hw, fp, σc, Lw, gi.toGBat, gi.W, gi.phi.1⟩
  have loop : ∀ (ds : List D) (i n : Nat) (s₀ s : Shared) (O' L' : List Addr) (sd : S) (σ : L2.St) (H : Hp) (zs : List D) (o : Option Out), ds = all.drop i → i ≤ all.length → 0 < n →
      (∃ (Hw : Hp) (fp : List Addr) (σc : L2.St) (Lw : List Addr), GIat G cl C ip (fun V => Φ V ∧ Same (hide (L ++ O) H1) V) s₀ n O' L' sd σ H s Hw fp σc Lw ∧ ∀ b ∈ fpi, Fpi G ip s₀ Hw fp H b) → tn i s.heap → gForL T B ds n sd = ok (zs, o) → Items C n zs → GKd G cl C ip Φ c fs K (n - zs.length) o →
      Seg (model G.P G.w) G.A (GRd G cl C) (GYd G cl C) n s₀ (.forLoop tg (.ref it) body [] G.env) ((model G.P G.w).den (.forLoop tg (.ref it) body [] G.env))
        (.ret (fun r => ((match r with | .ok f => (.pure f : Sem Flow) | .error e => .raise e).onRaise (cameBack G.env)).wrap K J gd lv) none (gd false) (lv []) c p [] :: fs) s := by
    intro ds
    induction ds with
    | nil =>
      intro i n s₀ s O' L' sd σ H zs o hd hil hn hI hst e hi' k
      cases e
      obtain ⟨Hw, fp, σc, Lw, gi, hf⟩ := hI
      have hl : all.length ≤ i := by
        have := congrArg List.length hd
        rw [List.length_drop] at this
        simp at this
        omega
      refine seg_forLoop ?_
      rw [(gl _).over]
      refine wpAny_mono (T0.done (G.X s₀ Hw fp) rfl rfl rfl rfl i ip s σ H (fun _ _ => False) gi.I (fun b hb => (hf b hb).ok K0) hst (io.stop i _ H gi.phi.2 hl)) (fun r s1 hr => ?_) fun _ _ z => z.elim
      obtain ⟨rfl, I'⟩ := hr
      exact seg_leaf (.ok .next) (k s₀ O' L' σ H s1 ⟨Hw, fp, σc, Lw, ⟨gi.cI, gi.cn, gi.fpo, gi.n0, gi.ips, I', gi.st, gi.mu, gi.sz⟩, gi.W, gi.phi.1⟩)
    | cons d ds ih =>
      intro i n s₀ s O' L' sd σ H zs o hd hil hn hI hst e hi' k
      obtain ⟨Hw, fp, σc, Lw, gi, hf⟩ := hI
      have hlt : i < all.length := by
        have := congrArg List.length hd
        rw [List.length_drop, List.length_cons] at this
        omega
      have hdd : all[i]? = some d := by
        have := congrArg (fun l => l[0]?) hd
        simp only [List.getElem?_cons_zero, List.getElem?_drop, Nat.add_zero] at this
        exact this.symm
      have hd' : ds = all.drop (i + 1) := by
        have := congrArg List.tail hd
        rw [List.tail_cons, List.tail_drop] at this
        exact this
      obtain ⟨s0', e1, e⟩ := bd_of (m := T d sd) e
      obtain ⟨⟨as, x⟩, e2, e⟩ := bd_of (m := B n s0') e
      have px := hb.px n s0' as x hn e2
      refine seg_forLoop ?_
      rw [(gl _).over]
      refine wpAny_mono (T0.item (G.X s₀ Hw fp) rfl rfl rfl rfl i ip s σ H (fun _ _ => False) gi.I (fun b hb => (hf b hb).ok K0) hst (io.go i _ H gi.phi.2 hlt)) (fun r s1 hr => ?_) fun _ _ z => z.elim
      obtain ⟨u, rfl, hr⟩ := hr
      refine wpAny_mono hr (fun _ s2 hr => ?_) fun _ _ z => z.elim
      obtain ⟨x', H2, I2, rx, hy, st2, fr2⟩ := hr
      obtain ⟨sm, rp⟩ := io.yld i _ H x' H2 gi.phi.2 gi.W.alive hy
      have rp := rp d hdd
      have W2 : Wl G.K cl (wg O') L' sd σ H2 := gi.W.ext sm
      have gi2 := gi.on hΦ' I2 (Step.of_same sm) W2
      have hf2 : ∀ b ∈ fpi, Fpi G ip s₀ Hw fp H2 b := fun b hb => ⟨fr2 b hb, (hf b hb).nl, (hf b hb).nf, (hf b hb).le, (hf b hb).ni, (hf b hb).wh⟩
      have I3 := I2.pinned (fun b hb => (hf2 b hb).ok K0) (T0.obj _ _ st2)
      have gi3 : GIat G cl C (ip ++ pinsAt fpi s2.heap) (fun V => Φ V ∧ Same (hide (L ++ O) H1) V) s₀ n O' L' sd σ H2 s2 Hw fp σc Lw := ⟨⟨gi2.cI, gi2.cn, gi2.fpo, gi2.n0, fun q hq => by
        rcases List.mem_append.mp hq with z | z
        · exact gi2.ips q z
        · exact ⟨(hf2 q.1 (of_pinsAt z).1).le, (hf2 q.1 (of_pinsAt z).1).wh⟩, I3, gi2.st, gi2.mu, gi2.sz⟩, W2, gi2.phi⟩
      have tg : TGof G.K cl noW us T x' σ H2 (fun σ' H' => Step (wg O') L' H2 L' H' ∧ Wl G.K cl (wg O') L' s0' σ' H') := ⟨wg O', L', sd, d, W2, rp, by rw [e1]; exact fun σ' H' a b c => ⟨a, b⟩⟩
      refine wpAny_mono ((hg s₀ Hw fp).run _ s2 σ H2 x' u _ I3 rx tg) (fun _ s3 hr => ?_) fun _ _ z => z.elim
      obtain ⟨σ3, H3, I3', a3, b3⟩ := hr
      have gi4 := gi3.on hΦ' I3' a3 b3
      -- the next turn
      have again : ∀ {s₀' : Shared} {m : Nat} {O'' L'' : List Addr} {sd'' : S} {σ' : L2.St} {H' : Hp} {s' : Shared}, GI G cl C (ip ++ pinsAt fpi s2.heap) (fun V => Φ V ∧ Same (hide (L ++ O) H1) V) s₀' m O'' L'' sd'' σ' H' s' →
          (∃ (Hw : Hp) (fp : List Addr) (σc : L2.St) (Lw : List Addr), GIat G cl C ip (fun V => Φ V ∧ Same (hide (L ++ O) H1) V) s₀' m O'' L'' sd'' σ' H' s' Hw fp σc Lw ∧ ∀ b ∈ fpi, Fpi G ip s₀' Hw fp H' b) ∧ tn (i + 1) s'.heap := fun {s₀' m O'' L'' sd'' σ' H' s'} h => by
        obtain ⟨Hw', fp', σc', Lw', gi'⟩ := h
        have gpin : ∀ b ∈ fpi, ∀ o, s2.heap.get? b = some o → s'.heap.get? b = some o ∧ H' b = none := fun b hb o e => by
          obtain ⟨k1, k2, _⟩ := gi'.I.pin (b, o) (List.mem_append_right _ (List.mem_append_right _ (mem_pinsAt hb e)))
          exact ⟨k1, k2⟩
        refine ⟨⟨Hw', fp', σc', Lw', ⟨⟨gi'.cI, gi'.cn, gi'.fpo, gi'.n0, fun q hq => gi'.ips q (List.mem_append_left _ hq), gi'.I.unpinned, gi'.st, gi'.mu, gi'.sz⟩, gi'.W, gi'.phi⟩, fun b hb => ?_⟩, T0.keep _ _ _ st2 fun b hb o e => (gpin b hb o e).1⟩
        obtain ⟨o, e, _⟩ := T0.obj _ _ st2 b hb
        exact ⟨(gpin b hb o e).2, (hf b hb).nl, (hf b hb).nf, (hf b hb).le, (hf b hb).ni, (gi'.ips (b, o) (List.mem_append_right _ (mem_pinsAt hb e))).2⟩
      have unp : ∀ {s₀' : Shared} {m : Nat} {O'' L'' : List Addr} {sd'' : S} {σ' : L2.St} {H' : Hp} {s' : Shared}, GI G cl C (ip ++ pinsAt fpi s2.heap) (fun V => Φ V ∧ Same (hide (L ++ O) H1) V) s₀' m O'' L'' sd'' σ' H' s' → GI G cl C ip Φ s₀' m O'' L'' sd'' σ' H' s' := fun h => by
        obtain ⟨⟨Hw', fp', σc', Lw', gi', _⟩, _⟩ := again h
        exact drop ⟨Hw', fp', σc', Lw', gi'⟩
      have unb : ∀ {s₀' : Shared} {m : Nat} {O'' L'' : List Addr} {σ' : L2.St} {H' : Hp} {s' : Shared}, GB G C (ip ++ pinsAt fpi s2.heap) s₀' m O'' L'' σ' H' s' → GB G C ip s₀' m O'' L'' σ' H' s' := fun h => by
        obtain ⟨Hw', fp', σc', Lw', gi'⟩ := h
        exact ⟨Hw', fp', σc', Lw', gi'.cI, gi'.cn, gi'.fpo, gi'.n0, fun q hq => gi'.ips q (List.mem_append_left _ hq), gi'.I.unpinned, gi'.st, gi'.mu, gi'.sz⟩
      cases x with
      | none =>
        have e : ok (as, none) = ok (zs, o) := e
        cases e
        exact hb.run C _ _ n s₀ _ _ _ _ _ _ s3 O' L' s0' σ3 H3 _ none F0 hΦ' (gl _) hn ⟨Hw, fp, σc, Lw, gi4⟩ e2 hi' True.intro
      | some out =>
        have l1 := px.less (by simp)
        cases out with
        | nx s4 =>
          obtain ⟨⟨bs, y⟩, e5, e6⟩ := bd_of e
          cases e6
          refine hb.run C _ _ n s₀ _ _ _ _ _ _ s3 O' L' s0' σ3 H3 _ _ F0 hΦ' (gl _) hn ⟨Hw, fp, σc, Lw, gi4⟩ e2 hi'.fst fun s₀' O'' L'' σ' H'' s'' hI' => ?_
          obtain ⟨h1, h2⟩ := again hI'
          rw [List.length_append, ← Nat.sub_sub] at k
          exact seg_again rfl (ih (i + 1) (n - as.length) s₀' s'' O'' L'' s4 σ' H'' bs y hd' hlt (by omega) h1 h2 e5 hi'.snd k)
        | ct s4 =>
          obtain ⟨⟨bs, y⟩, e5, e6⟩ := bd_of e
          cases e6
          refine hb.run C _ _ n s₀ _ _ _ _ _ _ s3 O' L' s0' σ3 H3 _ _ F0 hΦ' (gl _) hn ⟨Hw, fp, σc, Lw, gi4⟩ e2 hi'.fst fun s₀' O'' L'' σ' H'' s'' hI' => ?_
          obtain ⟨h1, h2⟩ := again hI'
          rw [List.length_append, ← Nat.sub_sub] at k
          exact seg_again rfl (ih (i + 1) (n - as.length) s₀' s'' O'' L'' s4 σ' H'' bs y hd' hlt (by omega) h1 h2 e5 hi'.snd k)
        | bk s4 =>
          have e : ok (as, some (.nx s4)) = ok (zs, o) := e
          cases e
          exact hb.run C _ _ n s₀ _ _ _ _ _ _ s3 O' L' s0' σ3 H3 _ _ F0 hΦ' (gl _) hn ⟨Hw, fp, σc, Lw, gi4⟩ e2 hi' fun s₀' O'' L'' σ' H'' s'' hI' => seg_leaf (.ok .next) (k s₀' O'' L'' σ' H'' s'' (unp hI'))
        | rt d' s4 =>
          have e : ok (as, some (.rt d' s4)) = ok (zs, o) := e
          cases e
          exact hb.run C _ _ n s₀ _ _ _ _ _ _ s3 O' L' s0' σ3 H3 _ _ F0 hΦ' (gl _) hn ⟨Hw, fp, σc, Lw, gi4⟩ e2 hi' fun s₀' O'' L'' σ' H'' s'' v u hI' r1 r2 => seg_leaf (.ok (.ret u)) (k s₀' O'' L'' σ' H'' s'' v u (unb hI') r1 r2)
        | rf d' s4 =>
          have e : ok (as, some (.rf d' s4)) = ok (zs, o) := e
          cases e
          exact k.elim
  refine loop all 0 n s₀ s2 O L sd1 σ H1 zs o (List.drop_zero ..).symm (Nat.zero_le _) hn ⟨Hw, fp, σc, Lw, ⟨gi1.toGBat, gi1.W, gi1.phi, Same.refl _⟩, fun b hb => Fpi.of gi1.sz (fo b hb)⟩ st0 e hit k
end
end Dt
namespace Dt
open PySem PySem.Spec PyProof.Rows L2 GenW
section
variable {G : Gp} {cl : Cl} {C : Cb} {ip : List (Addr × Obj)} {s₀ s : Shared} {n : Nat} {O L : List Addr} {σ : L2.St} {H Hw : Hp} {fp : List Addr} {σc : L2.St} {Lw : List Addr}
/-- the generator's own objects, for its consumer -/
theorem GBat.fps (g : GBat G C ip s₀ n O L σ H s Hw fp σc Lw) (F : C.Fits G) : ∀ b ∈ G.n0 :: ip.map (·.1), FpOk C.X C.pins H b ∧ ∃ o, s.heap.get? b = some o ∧ ∀ v, o.data ≠ .cell v := by
  have le : ∀ b ∈ G.n0 :: ip.map (·.1), G.n0 ≤ b := fun b hb => by
    (rcases List.mem_cons.mp hb with z | z)
    · rw [z]; exact Nat.le_refl _
    · obtain ⟨p, hp, rfl⟩ := List.mem_map.mp z
      exact (g.ips p hp).1
  have nfs : ∀ b ∈ C.X.fs, b < G.n0 := fun b hb => by
    obtain ⟨_, o, ho, _⟩ := g.cI.ok.funs.mem hb
    exact Nat.lt_of_lt_of_le (Heap.lt_size ho) F.sz
  have pn : ∀ b ∈ G.n0 :: ip.map (·.1), ∀ p ∈ C.X.pn ++ C.pins, p.1 ≠ b := fun b hb p hp e => by
    (rcases List.mem_cons.mp hb with z | z)
    · exact (g.fpo G.n0 g.n0).2.2.2.2.2 p hp (e.trans z)
    · obtain ⟨q, hq, rfl⟩ := List.mem_map.mp z
      obtain ⟨h1, h2⟩ := g.ips q hq
      obtain ⟨k1, k2, _, _, k5⟩ := g.cI.pin p hp
      have nf : p.1 ∉ fp := fun y => (g.fpo p.1 y).2.2.2.2.2 p hp rfl
      have nc : isCell p.2 = false := by
        cases y : isCell p.2 with
        | false => rfl
        | true =>
          unfold isCell at y
          split at y
          · next v hv => exact absurd hv (k5 v)
          · cases y
      exact h2 (p.1, p.2) (mem_keepers (by rw [e]; exact h1) k2 nf k1 nc) e
  intro b hb
  have hn : H b = none := by
    (rcases List.mem_cons.mp hb with z | z)
    · rw [z]; exact g.I.free
    · obtain ⟨q, hq, rfl⟩ := List.mem_map.mp z
      exact (g.I.pin q (List.mem_append_right _ hq)).2.1
  refine ⟨⟨hn, fun e => ?_, fun e => ?_, .inr (Nat.le_trans F.sz (le b hb)), fun x c e z => ?_, pn b hb⟩, ?_⟩
  · exact absurd F.loc (Nat.not_lt.mpr (by rw [← e]; exact le b hb))
  · exact absurd (nfs b e) (Nat.not_lt.mpr (le b hb))
  · exact absurd (F.cells x c e) (Nat.not_lt.mpr (by rw [z]; exact le b hb))
  · rcases List.mem_cons.mp hb with z | z
    · rw [z]
      obtain ⟨m, ⟨o, es, ep, ho, hd, _⟩, _⟩ := g.I.loc
      exact ⟨o, ho, fun v q => by rw [hd] at q; cases q⟩
    · obtain ⟨q, hq, rfl⟩ := List.mem_map.mp z
      obtain ⟨k1, _, _, _, k5⟩ := g.I.pin q (List.mem_append_right _ hq)
      exact ⟨q.2, k1, k5⟩
end
/-! ### the first wake -/
/-- a generator def: what its frames are made of -/
structure GD where
  N : List Str
  qual : Str
  scope : Scope
  f : Addr
  cd : Value
  body : List Stmt
abbrev GD.env (g : GD) (n0 : Addr) : Env := envOfC g.qual g.scope n0 g.f g.cd
structure GD.Ok (g : GD) : Prop where
  kind : g.scope.kind = .function
  nocell : ∀ n x, (g.env n).cells.lookup x = none
  nokind : ∀ x, g.scope.names.lookup x ≠ some .cell ∧ g.scope.names.lookup x ≠ some .free
def GD.gp (g : GD) (X : Cx) (n0 : Addr) : Gp where
  P := X.prog
  w := X.w
  K := X.K
  mg := X.mg
  base := X.base
  N := g.N
  qual := g.qual
  scope := g.scope
  f := g.f
  cd := g.cd
  A := X.A.in1
  outer := X.stack
  n0 := n0
/-- a generator that has not begun -/
structure GMk (g : GD) (vs : List V) (s : Shared) (a : Addr) (gi : Nat) (s' : Shared) : Prop where
  gen : s'.heap.IsGen a gi
  at' : s'.gens[gi]? = some (.fresh (.func g.body (g.env s.heap.objs.size)))
  os : s'.os = s.os
  bare : AllBare s'.gens
  keep : ∀ b o, s.heap.get? b = some o → s'.heap.get? b = some o
  lt : s.heap.objs.size < a
  loc : ∃ m, s'.heap.Ns s.heap.objs.size m ∧ ∀ (i : Nat) (x : Str) (v : V), g.N[i]? = some x → (start g.N vs)[i]? = some (some v) → ∃ u, RelV v u ∧ m x = some u
  kloc : ∀ (i : Nat) (x : Str) (v : V), g.N[i]? = some x → (start g.N vs)[i]? = some (some v) → (g.env s.heap.objs.size).kindOf x = some .local
section
variable {X : Cx} {pins : List (Addr × Obj)} {σ : L2.St} {H : Hp} {sc s : Shared} {g : GD} {cl : Cl}
theorem GD.gpOk (k : g.Ok) (I : Inv X pins σ H sc) (hc : X.calm = true) : (g.gp X sc.heap.objs.size).Ok where
  kind := k.kind
  nocell := k.nocell _
  nokind := k.nokind
  mod := I.ok.mod
  bsz := Nat.le_trans I.ok.bsz I.sz
  hd := I.ok.hd hc
  frames := I.ok.frames
  below := fun b hb => by
    obtain ⟨_, o, ho, _⟩ := (I.stack).mem hb
    exact Heap.lt_size ho
theorem gd_fits {C : Cb} (I : Inv X pins σ H sc) (hX : C.X = X) : C.Fits (g.gp X sc.heap.objs.size) := by
  refine ⟨by rw [hX]; rfl, by rw [hX]; rfl, by rw [hX]; rfl, by rw [hX]; rfl, by rw [hX]; exact I.sz, by rw [hX]; exact I.lt, fun x c e => ?_⟩
  rw [hX] at e
  obtain ⟨v, q⟩ := I.cell x c e
  exact q.lt
end
/-- a generator's state at a wake, by what its consumer has -/
theorem inv_gp {G : Gp} {C : Cb} (K0 : G.Ok) (F : C.Fits G) {s2 : Shared} {σ2 σ : L2.St} {H2 : Hp} {fp : List Addr} {ip : List (Addr × Obj)} (I2 : Inv C.X C.pins σ2 H2 s2) (hn : H2 G.n0 = none) (len : σ.length = G.N.length)
    (loc : ∃ m, s2.heap.Ns G.n0 m ∧ ∀ (i : Nat) (x : Str) (v : V), G.N[i]? = some x → σ[i]? = some (some v) → ∃ u, RelV v u ∧ G.env.kindOf x = some .local ∧ m x = some u)
    (hip : ∀ p ∈ ip, s2.heap.get? p.1 = some p.2 ∧ H2 p.1 = none ∧ p.1 ≠ G.n0 ∧ p.1 ∉ frs G.outer ∧ ∀ v, p.2.data ≠ .cell v) (hfp : G.n0 ∈ fp) : Inv (G.X s2 H2 fp) ip σ H2 s2 := by
  have fsn : ∀ b ∈ frs G.outer, H2 b = none := fun b hb => I2.stkFree b (by rw [F.stack]; exact hb)
  have low2 : ∀ b o, (low s2.heap G.n0).get? b = some o → s2.heap.get? b = some o := fun b o e => of_low e
  have low3 : ∀ {b}, b < G.n0 → (low s2.heap G.n0).get? b = s2.heap.get? b := fun h => low_get h
  have nc : ∀ x c, (G.X s2 H2 fp).env.cells.lookup x = some c → False := fun x c e => by
    rw [show (G.X s2 H2 fp).env.cells.lookup x = none from K0.nocell x] at e
    cases e
  refine ⟨⟨K0.mod, K0.kind, rfl, rfl, ?_, fun x y c e _ => (nc x c e).elim, fun x hx => ?_, fun x c _ e => (nc x c e).elim, fun _ => K0.hd, Around.frames_deeper K0.frames, .inr ⟨rfl, rfl⟩, fun b z => absurd z (by simp [Gp.X]), fun b o e => ?_, ?_, fun b o e => by simp [Gp.X], fun b z => absurd z (by simp [Gp.X]), ?_, fun b hb => ?_⟩,
      rfl, I2.bare, ⟨fun b o e h1 h2 h3 => low2 b o e, fun b o e h1 h2 h3 => ⟨o.slots, low2 b o e⟩, fun b o e h1 h2 => ?_, fun b o e h1 => ⟨o, low2 b o e⟩, fun b xs e => of_lowH e, fun b o u e => of_lowH e, fun b ps e => ⟨#[], by rw [of_lowH e]; simp⟩⟩, ?_, fun x c e => (nc x c e).elim, hn, fun x c e => (nc x c e).elim, fun p hp => ?_, ?_, len⟩
  · show (low s2.heap G.n0).objs.size ≤ G.n0
    rw [low_size]
    exact Nat.min_le_left _ _
  · have hx : G.env.kindOf x = some .cell ∨ G.env.kindOf x = some .free := hx
    rcases hx with hx | hx
    · exact absurd hx (K0.nokind x).1
    · exact absurd hx (K0.nokind x).2
  · have q : C.X.base.get? b = some o := by rw [F.base]; exact e
    have hb : b < G.n0 := Nat.lt_of_lt_of_le (Heap.lt_size e) K0.bsz
    obtain ⟨q1, q2⟩ := I2.bs b o q
    exact ⟨(low3 hb).trans q1, (lowH_in hb).trans q2⟩
  · show G.base.objs.size ≤ (low s2.heap G.n0).objs.size
    rw [low_size]
    refine Nat.le_min.mpr ⟨K0.bsz, ?_⟩
    have := I2.ok.bsz
    rw [F.base] at this
    exact Nat.le_trans this I2.sz
  · show (low s2.heap G.n0).FunFrames G.base G.outer
    have fr := I2.stack
    rw [F.stack, F.base] at fr
    have : ∀ (l : List Env), (∀ b ∈ frs l, b < G.n0) → s2.heap.FunFrames G.base l → (low s2.heap G.n0).FunFrames G.base l := by
      intro l
      induction l with
      | nil => intro _ _; trivial
      | cons env rest ih =>
        intro hb ⟨h1, ⟨A, o, h2, h3, h4, h5⟩, h6⟩
        have hA : A < G.n0 := hb A (by
          unfold frs
          rw [List.filterMap_cons, h2]
          exact List.mem_cons_self)
        refine ⟨h1, ⟨A, o, h2, h3, (low3 hA).trans h4, h5⟩, ih (fun b z => hb b ?_) h6⟩
        unfold frs
        rw [List.filterMap_cons, h2]
        exact List.mem_cons_of_mem _ z
    exact this G.outer K0.below fr
  · show lowH H2 G.n0 b = none
    rw [lowH_in (K0.below b hb)]
    exact fsn b hb
  · have e' := lowH_in (H := H2) (low_out e)
    rw [← e']
    exact h1
  · obtain ⟨m', hns, hl⟩ := loc
    refine ⟨m', hns, fun i x v h1 h2 h3 => ?_⟩
    obtain ⟨u, ru, k, lk⟩ := hl i x v h1 h2
    exact ⟨u, ru, .inl ⟨k, lk⟩⟩
  · (rcases List.mem_append.mp hp with hp | hp)
    · obtain ⟨h1, h2, h3, h4, h5⟩ := of_keepers hp
      refine ⟨h4, h2, fun z => h3 ?_, fun z => ?_, h5⟩
      · rw [z]
        exact hfp
      · exact absurd (K0.below p.1 z) (Nat.not_lt.mpr h1)
    · exact hip p hp
  · show HOk G.P G.w H2 s2.heap
    have := I2.hok
    rw [F.prog, F.w] at this
    exact this
section
variable {X : Cx} {pins : List (Addr × Obj)} {σ : L2.St} {H : Hp} {sc s : Shared} {g : GD} {cl : Cl}
/-- the first wake -/
theorem gi_first {C : Cb} {O : List Addr} {H2 : Hp} {s2 : Shared} {σ2 : L2.St} {vs : List V} {ds : List D} {n : Nat} {n0 : Addr} (K0 : (g.gp X n0).Ok) (F : C.Fits (g.gp X n0)) (I2 : Inv C.X C.pins σ2 H2 s2) (cn : C.Cn n [] O σ2 H2) (fo : FpOk C.X C.pins H2 n0) (hN : vs.length ≤ g.N.length)
    (loc : ∃ m, s2.heap.Ns n0 m ∧ ∀ (i : Nat) (x : Str) (v : V), g.N[i]? = some x → (start g.N vs)[i]? = some (some v) → ∃ u, RelV v u ∧ m x = some u)
    (kloc : ∀ (i : Nat) (x : Str) (v : V), g.N[i]? = some x → (start g.N vs)[i]? = some (some v) → (g.env n0).kindOf x = some .local)
    (al : ∀ a ∈ O, H2 a ≠ none) (r : RpA X.K cl (hide O H2) vs ds) : GI (g.gp X n0) cl C [] (fun _ => True) s2 n O [] (ds.map Sl.val ++ List.replicate (g.N.length - ds.length) Sl.un) (start g.N vs) H2 s2 := by
  have I : Inv ((g.gp X n0).X s2 H2 [n0]) [] (start g.N vs) H2 s2 := inv_gp K0 F I2 fo.1 (by rw [start_len]; show _ = g.N.length; omega) (by
    obtain ⟨m, h1, h2⟩ := loc
    refine ⟨m, h1, fun i x v e1 e2 => ?_⟩
    obtain ⟨u, q1, q2⟩ := h2 i x v e1 e2
    exact ⟨u, q1, kloc i x v e1 e2, q2⟩) (fun p hp => by simp at hp) (by show n0 ∈ [n0]; simp)
  refine ⟨H2, [n0], σ2, [], ⟨I2, cn, fun b hb => by rw [List.mem_singleton.mp hb]; exact fo, by show n0 ∈ [n0]; simp, fun p hp => by simp at hp, I, .refl, fun a ha => by simp at ha, ?_⟩, ?_, True.intro⟩
  · obtain ⟨m, ⟨o, _, _, ho, _⟩, _⟩ := loc
    exact Heap.lt_size ho
  · have W := wl_start (K := X.K) (cl := cl) g.N al r
    refine ⟨fun b o _ e => (by cases (show (none : Option HO) = some o from e)), fun a ha => (by simp at ha), W.alive, W.disj, W.sub, ⟨W.st.val, fun i d e => ?_, fun i d e => ?_, W.st.inj, W.st.ioj, W.st.len⟩⟩
    · obtain ⟨a, h1, h2, h3⟩ := W.st.own i d e
      simp at h2
    · obtain ⟨h1, h2, h3⟩ := W.st.io i d e
      simp at h2
end
end Dt
namespace Dt
open PySem PySem.Spec PyProof.Rows L2 GenW
/-- where a generator that sleeps goes on, at the turn behind -/
def later (M : Model) (A : Around) (R : GenEnd) (Y : Protocol) : Nat → GenState → Resume → Shared → Prop
  | 0, _, _, _ => False
  | m + 1, g2, r2, s2 => g2.Goes M A R Y m r2 s2
/-- .. the new state sleeps -/
theorem wp_woken {M : Model} {A : Around} {R : GenEnd} {Y : Protocol} {n g : Nat} {E : Value → Shared → Prop} {s : Shared} {gs : GenState} {r : Resume} {l : List Value} {α : Type} {k : GenResult → Sem α} {Q : α → Shared → Prop}
    (at_g : s.gens[g]? = some gs) (go : gs.Goes M A R Y n r (s.setGen g .running))
    (left : ∀ x s1, R n (s.setGen g .running) x s1 → wpAny M A (k (End.ret x).result) Q E (s1.setGen g .finished))
    (slept : ∀ v s1 g2, asl g2 = true → g2.bare = true → Y (n - 1) (s.setGen g .running) v s1 (later M A R Y n g2) → wpAny M A (k (.yielded v)) Q E (s1.setGen g g2)) :
    wpAny M A
          (.resume g r l k) Q E s := by
  intro Γ p hΓ
  rw [Sem.wp_resume]
  have fin : ∀ e1 s1, SegEnd R Y n (Seg.next M A R Y n) (s.setGen g .running) e1 s1 → e1.quiet = true ∧ Sem.wp M Γ (k e1.result) (fun a _ s' => Q a s') (fun e _ s' => E e s') p (s1.setGen g e1.genState) := by
    intro e1 s1 he
    cases e1 with
    | ret x => exact ⟨rfl, left x s1 he Γ p hΓ⟩
    | susp v g0 l0 k0 c0 p0 f0 =>
      refine ⟨he.1, slept v s1 _ rfl (End.bare_of_quiet he.1) ?_ Γ p hΓ⟩
      cases n with
      | zero => exact he.2
      | succ m => exact he.2
  cases gs with
  | fresh c =>
    obtain ⟨rfl, hs⟩ := go
    obtain ⟨e1, s1, hr, he⟩ := (seg_iff.mp hs) (Γ.wake c p) p rfl (hΓ.wake c p)
    refine ⟨_, _, ?_, (fin e1 s1 he).2⟩
    unfold Wakes
    rw [at_g]
    exact ⟨e1, s1, hr, (fin e1 s1 he).1, rfl, rfl⟩
  | suspended k0 l0 c0 p0 f0 z =>
    obtain ⟨e1, s1, hr, he⟩ := (seg_iff.mp go) (Γ.wake c0 p) p0 rfl (hΓ.wake c0 p)
    refine ⟨_, _, ?_, (fin e1 s1 he).2⟩
    unfold Wakes
    rw [at_g]
    exact ⟨e1, s1, hr, (fin e1 s1 he).1, rfl, rfl⟩
  | running => exact go.elim
  | finished => exact go.elim
/-- the next item of a generator -/
theorem next_slept {P : Program} {w : World} {A : Around} {E : Value → Shared → Prop} {s : Shared} {a : Addr} {g n : Nat} {gs : GenState} {F : Nat → Shared → Shared → Prop} {Er : Value → Shared → Prop} {Y : Protocol} {Q : Option Value → Shared → Prop} (calm : A.handled = none)
    (lim : s.heap.NoLimit) (room : A.depth < recursionLimit) (is_g : s.heap.IsGen a g) (at_g : s.gens[g]? = some gs)
    (go : gs.Goes (model P w) A.in1 (fun n s0 r s1 => ((r = .ok (.ret .none) ∨ r = .ok .next) ∧ F n s0 s1) ∨ ∃ e, r = .error e ∧ Er e s1) Y n (.send .none) (s.setGen g .running))
    (slept : ∀ v s1 g2, asl g2 = true → g2.bare = true → Y (n - 1) (s.setGen g .running) v s1 (later (model P w) A.in1 (fun n s0 r s1 => ((r = .ok (.ret .none) ∨ r = .ok .next) ∧ F n s0 s1) ∨ ∃ e, r = .error e ∧ Er e s1) Y n g2) → Q (some v) (s1.setGen g g2))
    (left : ∀ s1, F n (s.setGen g .running) s1 → ∀ h', (∀ b o, s1.heap.get? b = some o → h'.get? b = some o) → Q none { s1.setGen g .finished with heap := h' })
    (bad : ∀ e s1, Er e s1 → s1.heap.IsGen a g ∧ NotStop (model P w) e s1.heap ∧ E e (s1.setGen g .finished)) :
    wpAny (model P w) A
          (pyNext (.ref a)) Q E s := by
  unfold pyNext
  refine wpAny_bind (wpAny_attempt (wpAny_callSpecial?_slot (name := Str.ofString "__next__") is_g.typeIs slot_gen_next (wpAny_call_entry slot_gen_next is_g.typeIs entry_gen_next ?_ (args_gen_next _))))
  (show wpAny _ A.in1 (Builtin.Generator.genWake (.ref a) (.send .none)) _ _ s)
  (unfold Builtin.Generator.genWake)
  refine wpAny_bind (wpAny_holding (wpAny_genNumber is_g (wpAny_bind (wpAny_genState at_g ?_))))
  cases gs with
  | running => exact go.elim
  | finished => exact go.elim
  | _ =>
    refine wpAny_bind (wpAny_roomToWake lim room ?_)
    (show wpAny _ A.in1 (.resume g (.send .none) [] _) _ _ s)
    refine wp_woken at_g go (fun x s1 hx => ?_) fun v s1 g2 ha hb hv => wpAny_pure ⟨v, rfl, wpAny_pure (slept v s1 g2 ha hb hv)⟩
    rcases hx with ⟨hr, hp⟩ | ⟨e, rfl, he⟩
    · have res : End.result (.ret x) = .returned .none := by
        rcases hr with hr | hr
        · rw [hr]; rfl
        · rw [hr]; rfl
      first | rw [res] | simp only [res]
      (show wpAny _ A.in1 (newExc (.type "StopIteration") [] >>= _) _ _ _)
      refine wpAny_bind ?_
      simp only [newExc, newTuple]
      (refine wpAny_bind (wpAny_newObj_type ?_ (by size_fits)))
      (refine wpAny_bind (m := firstArgMember _ _) (wpAny_of_eq (a := Value.none) (by first | rfl | (simp only [firstArgMember]; rfl)) ?_))
      (refine wpAny_newObj_type ?_ (by size_fits))
      simp only [raiseNew]
      (refine wpAny_bind (wpAny_bind (wpAny_handled ?_)))
      first | rw [show A.in1.handled = none from calm] | rw [calm]
      refine wpAny_throw (wpAny_bind (wpAny_isInstance (T := "StopIteration") (b := true) ⟨_, Heap.get?_push_size _ rfl, rfl⟩ isSubtype_stop ?_))
      exact wpAny_pure (left s1 hp _ fun b o hb => Heap.get?_push_of_some _ (Heap.get?_push_of_some _ hb))
    · obtain ⟨hg1, hns, hq⟩ := bad e s1 he
      (obtain ⟨o, nm, qn, ho, hc, hd, hsl⟩ := hg1)
      (show wpAny _ A.in1 (Builtin.Generator.genLeft (.ref a) e) _ _ _)
      (unfold Builtin.Generator.genLeft Builtin.Generator.madeByALambda)
      (refine wpAny_bind (wpAny_bind (wpAny_load (o := o) ho (wpAny_pure ?_))))
      (refine wpAny_bind (hns _ _ _ _ rfl ?_))
      (rw [Bool.and_false, if_neg Bool.false_ne_true])
      (unfold Builtin.Generator.genEscaped)
      first
        | refine wpAny_bind
              (hns _ _ _ _ rfl ?_)
        | refine wpAny_bind
              (wpAny_pure (wpAny_bind (hns _ _ _ _ rfl ?_)))
      (rw [if_pos (show (!false) = true from rfl)])
      first
        | refine wpAny_throw ?_
        | refine wpAny_bind
              (wpAny_throw ?_)
      (refine wpAny_bind (hns _ _ _ _ rfl ?_))
      (rw [if_neg Bool.false_ne_true])
      exact wpAny_throw hq
end Dt
namespace Dt
open PySem PySem.Spec PyProof.Rows L2 GenW
/-! ### a loop over a generator: the mirror -/
def conB (r : S → Option (Sum S Out)) : Out → Option (Sum S Out)
  | .nx s => r s
  | .ct s => r s
  | .bk s => some (.inr (.nx s))
  | o => some (.inr o)
/-- the body at the items; left: no item is left -/
def forB (T : D → S → M S) (F : S → M Out) : List D → S → Option (Sum S Out)
  | [], s => some (.inl s)
  | d :: ds, s => match T d s with
    | some (.ok s1) => match F s1 with
      | some (.ok o) => conB (forB T F ds) o
      | _ => none
    | _ => none
/-- how the loop ends; o: how the generator ended -/
def endG (o : Option Out) : Sum S Out → M Out
  | .inl s => match o with
    | some _ => ok (.nx s)
    | none => none
  | .inr x => ok x
def ends? : Option Out → Bool
  | none => true
  | some (.nx _) => true
  | some (.rt .non _) => true
  | _ => false
def forGN (fa : S → M (List D × S)) (B : GM) (m : Nat) (T : D → S → M S) (F : S → M Out) (n : Nat) : S → M Out := fun s => bd (fa s) fun p => match B n (p.1.map Sl.val ++ List.replicate (m - p.1.length) Sl.un) with
  | some (.ok (zs, o)) => if ends? o = true then match forB T F zs p.2 with
      | some r => endG o r
      | none => none
    else none
  | _ => none
open Classical in
noncomputable def sForG (fa : S → M (List D × S)) (B : GM) (m : Nat) (T : D → S → M S) (F : S → M Out) : S → M Out := fun s => if h : ∃ n r, 0 < n ∧ forGN fa B m T F n s = some r then some (choose (choose_spec h)) else none
theorem of_sForG {fa : S → M (List D × S)} {B : GM} {m : Nat} {T : D → S → M S} {F : S → M Out} {s : S} {x : M Out} (h : sForG fa B m T F s = x) : x = none ∨ ∃ n r, 0 < n ∧ x = some r ∧ forGN fa B m T F n s = some r := by
  unfold sForG at h
  split at h
  · next e => exact .inr ⟨_, _, (Classical.choose_spec (Classical.choose_spec e)).1, h.symm, (Classical.choose_spec (Classical.choose_spec e)).2⟩
  · exact .inl h.symm
theorem forB_cons {T : D → S → M S} {F : S → M Out} {d : D} {ds : List D} {s : S} {r : Sum S Out} (h : forB T F (d :: ds) s = some r) : ∃ s1 out, T d s = some (.ok s1) ∧ F s1 = some (.ok out) ∧ conB (forB T F ds) out = some r := by
  rw [forB] at h
  generalize e1 : T d s = m at h
  match m, h with
  | none, h => cases h
  | some (.ex _ _), h => cases h
  | some (.ok s1), h =>
    have h : (match F s1 with
      | some (.ok o) => conB (forB T F ds) o
      | _ => none) = some r := h
    generalize e2 : F s1 = m2 at h
    match m2, h with
    | none, h => cases h
    | some (.ex _ _), h => cases h
    | some (.ok o), h => exact ⟨s1, o, rfl, e2, h⟩
theorem forB_at {T : D → S → M S} {F : S → M Out} {d : D} {ds : List D} {s s1 : S} {o : Out} (h1 : T d s = ok s1) (h2 : F s1 = ok o) : forB T F (d :: ds) s = conB (forB T F ds) o := by
  rw [forB, h1]
  show (match F s1 with
      | some (.ok o) => conB (forB T F ds) o
      | _ => none) = _
  rw [h2]
  rfl
theorem forB_pre {T : D → S → M S} {F : S → M Out} {out : Out} : ∀ {zs : List D} {s : S} (ys : List D), forB T F zs s = some (.inr out) → forB T F (zs ++ ys) s = some (.inr out)
  | [], _, _, h => by cases h
  | d :: zs, s, ys, h => by
    obtain ⟨s1, o, e1, e2, h⟩ := forB_cons h
    rw [List.cons_append, forB_at e1 e2]
    match o, h with
    | .nx s2, h => exact forB_pre ys h
    | .ct s2, h => exact forB_pre ys h
    | .bk s2, h => exact h
    | .rt d s2, h => exact h
    | .rf d s2, h => exact h
/-- more items asked for: the same end -/
theorem forGN_le {fa : S → M (List D × S)} {B : GM} {m : Nat} {T : D → S → M S} {F : S → M Out} (px : Pfx B) {n k : Nat} {s : S} {r r' : Rs Out} (hn : 0 < n) (hk : n ≤ k) (h : forGN fa B m T F n s = some r) (h' : forGN fa B m T F k s = some r') : r = r' := by
  unfold forGN at h h'
  match e : fa s, h, h' with
  | some (.ex e s'), h, h' =>
    cases h
    cases h'
    rfl
  | some (.ok (ds, s1)), h, h' =>
    have h : (match B n (ds.map Sl.val ++ List.replicate (m - ds.length) Sl.un) with
      | some (.ok (zs, o)) => if ends? o = true then match forB T F zs s1 with
          | some r => endG o r
          | none => none
        else none
      | _ => none) = some r := h
    have h' : (match B k (ds.map Sl.val ++ List.replicate (m - ds.length) Sl.un) with
      | some (.ok (zs, o)) => if ends? o = true then match forB T F zs s1 with
          | some r => endG o r
          | none => none
        else none
      | _ => none) = some r' := h'
    match e2 : B k (ds.map Sl.val ++ List.replicate (m - ds.length) Sl.un), h' with
    | some (.ok (zs, o)), h' =>
      have c := (px k _ zs o (Nat.lt_of_lt_of_le hn hk) e2).cut n hn hk
      have c : B n (ds.map Sl.val ++ List.replicate (m - ds.length) Sl.un) = ok (Cut zs o n) := c
      rw [c] at h
      unfold Cut at h
      by_cases l : zs.length < n
      · rw [if_pos l] at h
        exact Option.some.inj (h.symm.trans h')
      · rw [if_neg l] at h
        have h : (match forB T F (zs.take n) s1 with
          | some r => endG none r
          | none => none) = some r := h
        have h' : (if ends? o = true then match forB T F zs s1 with
          | some r => endG o r
          | none => none
        else none) = some r' := h'
        match e3 : forB T F (zs.take n) s1, h with
        | some (.inr out), h =>
          have := forB_pre (zs.drop n) e3
          rw [List.take_append_drop] at this
          rw [this] at h'
          split at h'
          · exact Option.some.inj (h.symm.trans h')
          · cases h'
theorem sForG_of {fa : S → M (List D × S)} {B : GM} {m : Nat} {T : D → S → M S} {F : S → M Out} (px : Pfx B) {n : Nat} {s : S} {r : Rs Out} (hn : 0 < n) (h : forGN fa B m T F n s = some r) : sForG fa B m T F s = some r := by
  rcases of_sForG (fa := fa) (B := B) (m := m) (T := T) (F := F) (s := s) rfl with e | ⟨k, r', hk, e, h'⟩
  · unfold sForG at e
    rw [dif_pos ⟨n, r, hn, h⟩] at e
    cases e
  · rw [e]
    rcases Nat.le_total n k with l | l
    · rw [forGN_le px hn l h h']
    · rw [forGN_le px hk l h' h]
/-! ### the states of the consumer -/
section
variable {K : PySem.W.Frag} {cl : Cl} {w : Wf} {L0 Lc Lw L : List Addr} {H0 Hw Hg : Hp} {sd : S} {σ : L2.St}
theorem seg_step {O : List Addr} (a : Step w L0 H0 Lc Hw) (g : Step (wg O) Lw Hw L Hg) (hl : ∀ x ∈ Lw, H0 x = none) : Step w L0 H0 Lc Hg := by
  refine ⟨fun b o h1 h2 e => g.keep b o (fun z => ?_) (by simp) (a.keep b o h1 h2 e), fun b e => g.alv b (a.alv b e), a.new⟩
  rw [hl b z] at e
  cases e
theorem seg_new {O : List Addr} (a : Step w L0 H0 Lc Hw) (g : Step (wg O) Lw Hw L Hg) (hl : ∀ x ∈ Lw, H0 x = none) : ∀ x ∈ L, H0 x = none := fun x hx => by
  rcases g.new x hx with z | z
  · exact hl x z
  · cases q : H0 x with
    | none => rfl
    | some o => exact absurd z (a.alv x (by rw [q]; simp))
/-- the generator has gone on: what the consumer has stands -/
theorem Wl.reown {O : List Addr} (W : Wl K cl { w with O0 := Lw ++ w.O0 } Lc sd σ Hw) (g : Step (wg O) Lw Hw L Hg) (fr : ∀ x ∈ Lw, w.H0 x = none) (no : ∀ x ∈ w.I, x ∉ Lw) (dis : ∀ a ∈ L, a ∉ Lc) (al : ∀ a ∈ L, Hg a ≠ none) (sb : ∀ a ∈ w.I, a ∈ w.O0) : Wl K cl { w with O0 := L ++ w.O0 } Lc sd σ Hg := by
  have kp : ∀ b o, b ∉ Lw → Hw b = some o → Hg b = some o := fun b o h e => g.keep b o h (by simp) e
  have lc : ∀ a ∈ Lc, a ∉ Lw := fun a ha z => W.disj a ha (List.mem_append_left _ z)
  have sm : Same (hide (Lc ++ (Lw ++ w.O0)) Hw) (hide (Lc ++ (L ++ w.O0)) Hg) := fun b o e => by
    obtain ⟨n, e⟩ := hide_some.mp e
    have n1 : b ∉ Lc := fun z => n (List.mem_append_left _ z)
    have n2 : b ∉ Lw := fun z => n (List.mem_append_right _ (List.mem_append_left _ z))
    have n3 : b ∉ w.O0 := fun z => n (List.mem_append_right _ (List.mem_append_right _ z))
    refine hide_some.mpr ⟨fun z => ?_, kp b o n2 e⟩
    rcases List.mem_append.mp z with z | z
    · exact n1 z
    · rcases List.mem_append.mp z with z | z
      · rcases g.new b z with y | y
        · exact n2 y
        · rw [e] at y; cases y
      · exact n3 z
  have own : ∀ {a d}, a ∉ Lw → OwnAt K cl w.H0 (Lc ++ (Lw ++ w.O0)) Hw a d → OwnAt K cl w.H0 (Lc ++ (L ++ w.O0)) Hg a d := fun {a d} n h => by
    refine h.move ?_ sm
    cases q : Hw a with
    | none => exact absurd q h.some
    | some o => exact kp a o n q
  refine ⟨fun b o n e => ?_, W.fresh, fun a ha => ?_, fun a ha z => ?_, fun a ha => List.mem_append_right _ (sb a ha), ⟨fun i d e => ?_, fun i d e => ?_, fun i d e => ?_, W.st.inj, W.st.ioj, W.st.len⟩⟩
  · refine kp b o (fun z => ?_) (W.keep b o n e)
    have := fr b z
    rw [show w.H0 b = some o from e] at this
    cases this
  · rcases List.mem_append.mp ha with z | z
    · exact g.alv a (W.alive a (List.mem_append_left _ z))
    · rcases List.mem_append.mp z with z | z
      · exact al a z
      · exact g.alv a (W.alive a (List.mem_append_right _ (List.mem_append_right _ z)))
  · rcases List.mem_append.mp z with z | z
    · exact dis a z ha
    · exact W.disj a ha (List.mem_append_right _ z)
  · obtain ⟨v, h1, h2⟩ := W.st.val i d e
    exact ⟨v, h1, h2.mono sm⟩
  · obtain ⟨a, h1, h2, h3⟩ := W.st.own i d e
    exact ⟨a, h1, h2, own (lc a h2) h3⟩
  · obtain ⟨h1, h2, h3⟩ := W.st.io i d e
    exact ⟨h1, h2, own (no _ h2) h3⟩
/-- fewer are hidden -/
theorem Wl.unhide (W : Wl K cl { w with O0 := L ++ w.O0 } Lc sd σ Hw) (sb : ∀ a ∈ w.I, a ∈ w.O0) : Wl K cl w Lc sd σ Hw := by
  have sm : Same (hide (Lc ++ (L ++ w.O0)) Hw) (hide (Lc ++ w.O0) Hw) := hide_sub fun a ha => by
    rcases List.mem_append.mp ha with z | z
    · (exact List.mem_append_left _ z)
    · exact List.mem_append_right _ (List.mem_append_right _ z)
  refine ⟨W.keep, W.fresh, fun a ha => W.alive a ?_, fun a ha z => W.disj a ha (List.mem_append_right _ z), sb, ⟨fun i d e => ?_, fun i d e => ?_, fun i d e => ?_, W.st.inj, W.st.ioj, W.st.len⟩⟩
  · rcases List.mem_append.mp ha with z | z
    · (exact List.mem_append_left _ z)
    · exact List.mem_append_right _ (List.mem_append_right _ z)
  · obtain ⟨v, h1, h2⟩ := W.st.val i d e
    exact ⟨v, h1, h2.mono sm⟩
  · obtain ⟨a, h1, h2, h3⟩ := W.st.own i d e
    exact ⟨a, h1, h2, h3.move rfl sm⟩
  · obtain ⟨h1, h2, h3⟩ := W.st.io i d e
    exact ⟨h1, h2, h3.move rfl sm⟩
end
/-! ### contexts without exceptions -/
abbrev nox (X : Cx) : Cx := { X with xe := fun _ _ => False }
section
variable {X
      : Cx} {pins : List (Addr × Obj)} {σ : L2.St} {H : Hp} {s : Shared}
theorem inv_nox (I : Inv X pins σ H s) : Inv (Dt.nox X) pins σ H s :=
  ⟨⟨I.ok.mod, I.ok.kind, I.ok.glob, I.ok.blt, I.ok.above, I.ok.inj, I.ok.has, I.ok.cab, I.ok.hd, I.ok.frames, I.ok.stk, I.ok.exf, I.ok.bs, I.ok.bsz, I.ok.noex, I.ok.exfs, I.ok.funs, I.ok.frf⟩, I.os, I.bare, I.base, I.loc, I.cell, I.free, I.freeC, I.pin, I.hok, I.len⟩
theorem inv_ofNox (I : Inv (Dt.nox X) pins σ H s) : Inv X pins σ H s :=
  ⟨⟨I.ok.mod, I.ok.kind, I.ok.glob, I.ok.blt, I.ok.above, I.ok.inj, I.ok.has, I.ok.cab, I.ok.hd, I.ok.frames, I.ok.stk, I.ok.exf, I.ok.bs, I.ok.bsz, I.ok.noex, I.ok.exfs, I.ok.funs, I.ok.frf⟩, I.os, I.bare, I.base, I.loc, I.cell, I.free, I.freeC, I.pin, I.hok, I.len⟩
theorem inv_setGen {g : Nat} {x : GenState} (I : Inv X pins σ H s) (hx : x.bare = true) : Inv X pins σ H (s.setGen g x) :=
  ⟨I.ok, I.os, allBare_setGen I.bare hx, I.base, I.loc, I.cell, I.free, I.freeC, I.pin, I.hok, I.len⟩
end
end Dt
namespace Dt
open PySem PySem.Spec PyProof.Rows L2 GenW
/-- an expression whose value is a generator that has not begun; its arguments' data -/
structure PGn (X : Cx) (cl : Cl) (wx : WX) (e : Expr) (fa : S → M (List D × S)) (g : GD) (ar : Nat) : Prop where
  run : ∀ (pins : List (Addr × Obj)) (s : Shared) (σ : L2.St) (H : Hp) (Q : List V → Hp → Prop), Inv X pins σ H s → TAof X.K cl wx fa σ H Q →
    wpAny (model X.prog X.w) X.A (eval e X.env) (fun u s' => ∃ (H1 : Hp) (sc : Shared) (vs : List V) (a : Addr) (gi : Nat), u = .ref a ∧ Inv X pins σ H1 sc ∧ Q vs H1 ∧ vs.length = ar ∧ GMk g vs sc a gi s') X.xe s
abbrev wfL (w : Wf) (L : List Addr) : Wf := { w with O0 := L ++ w.O0 }
def endsB (K : PySem.W.Frag) (cl : Cl) (w : Wf) (Lc : List Addr) (H : Hp) (ts : List Nat) (σ : L2.St) (T : D → S → M S) (F : S → M Out) (ds : List D) (rr : Sum S Out) (E : Ends) : Ends where
  nx := fun σ' H' => ∃ (L' : List Addr) (s' : S), Step w Lc H L' H' ∧ Wl K cl w L' s' σ' H' ∧ Agree ts σ σ' ∧ forB T F ds s' = some rr
  ct := fun σ' H' => ∃ (L' : List Addr) (s' : S), Step w Lc H L' H' ∧ Wl K cl w L' s' σ' H' ∧ Agree ts σ σ' ∧ forB T F ds s' = some rr
  bk := E.nx
  rt := E.rt
/-- what the consumer's slots tell -/
structure CnP (K : PySem.W.Frag) (cl : Cl) (w : Wf) (L0 : List Addr) (H0 : Hp) (ts : List Nat) (σ0 : L2.St) (T : D → S → M S) (F : S → M Out) (n : Nat) (zs : List D) (rr : Sum S Out) (j : Nat) (L O : List Addr) (σ : L2.St) (H : Hp) (Lc : List Addr) (s : S) : Prop where
  le : n - j ≤ zs.length
  jn : j ≤ n
  o : O = Lc ++ w.O0
  W : Wl K cl (wfL w L) Lc s σ H
  st : Step w L0 H0 Lc H
  fr : ∀ a ∈ L, H0 a = none
  ag : Agree ts σ0 σ
  go : forB T F (zs.drop (n - j)) s = some rr
section
variable {X : Cx} {cl : Cl} {wx : WX} {tg it : Expr} {body : List Stmt} {pos : Pos} {us ts : List Nat} {fa : S → M (List D × S)} {B : GM} {T : D → S → M S} {F : S → M Out} {g : GD} {ar k : Nat}
theorem s_forG (gk : g.Ok) (hp : ar ≤ g.N.length) (hr : Room k X.A) (hc : X.calm = true) (hB : ∀ n0, (g.gp X n0).Ok → GSs (g.gp X n0) cl g.body B) (he : PGn X cl wx it fa g ar)
    (hg : PG (nox X) tg (TGof X.K cl noW us T)) (hb : PSs (nox X) body (TSof X.K cl noW ts F)) (hs : ∀ v, foldedSetIterable it X.env v = pure v := by intro _; rfl) :
    PS X (.For tg it body [] pos) (TSof X.K cl wx (us ++ ts) (sForG fa B g.N.length T F)) := by
  refine ⟨fun pins s σ0 H00 E I h => ?_⟩
  obtain ⟨w, L0, sd, W0, h⟩ := h
  rcases of_sForG (fa := fa) (B := B) (m := g.N.length) (T := T) (F := F) (s := sd) rfl with e | ⟨n, r, hn, e, hN⟩
  · rw [e] at h
    exact h.elim
  rw [e] at h
  unfold forGN at hN
  match efa : fa sd, hN with
  | some (.ex ex s'), hN =>
    cases hN
    refine wpAny_For (thn (he.run pins s σ0 H00 (fun _ _ => False) I ⟨w, L0, sd, W0, by rw [efa]; exact h⟩) fun u s1 ⟨_, _, _, _, _, _, _, z, _⟩ => z.elim) hs
  | some (.ok (ds, sd1)), hN =>
    have hN : (match B n (ds.map Sl.val ++ List.replicate (g.N.length - ds.length) Sl.un) with
      | some (.ok (zs, o)) => if ends? o = true then match forB T F zs sd1 with
          | some r => endG o r
          | none => none
        else none
      | _ => none) = some r := hN
    match eB : B n (ds.map Sl.val ++ List.replicate (g.N.length - ds.length) Sl.un), hN with
    | some (.ok (zs, o)), hN =>
      have hN : (if ends? o = true then match forB T F zs sd1 with
          | some r => endG o r
          | none => none
        else none) = some r := hN
      by_cases eo : ends? o = true
      · rw [if_pos eo] at hN
        match eF : forB T F zs sd1, hN with
        | some rr, hN =>
          have hN : endG o rr = some r := hN
          refine wpAny_For (thn (he.run pins s σ0 H00 (fun vs H1 => Step w L0 H00 L0 H1 ∧ Wl X.K cl w L0 sd1 σ0 H1 ∧ RpA X.K cl (hide (L0 ++ w.O0) H1) vs ds) I ⟨w, L0, sd, W0, by rw [efa]; exact fun v H' a b c => ⟨a, b, c⟩⟩) ?_) hs
          rintro u s1 ⟨H0, sc, vs, a, gi, rfl, Ic, ⟨st1, W1, rA⟩, hlen, mk⟩
          refine wpAny_pyIter_gen mk.gen ?_
          obtain ⟨go, nm, qn, ho, hcls, hdat, hsl⟩ := mk.gen
          have I1 : Inv X pins σ0 H0 s1 := Ic.call' (ch := []) mk.os (Un.kept mk.keep) (Ic.hok.kept mk.keep) mk.bare fun b z => by simp at z
          have aH : H0 a = none := Ic.hok.fresh (Nat.le_of_lt mk.lt)
          have hcell : ∀ v, go.data ≠ .cell v := fun v q => by rw [hdat] at q; cases q
          have Ip : Inv X (pins ++ [(a, go)]) σ0 H0 s1 := I1.pins_of fun p hp => (List.mem_append.mp hp).elim (fun z => I1.pin p (List.mem_append_right _ z)) fun z => by
            rw [List.mem_singleton.mp z]
            exact ⟨ho, aH, Nat.ne_of_gt (Nat.lt_trans Ic.lt mk.lt), Ic.nofs (Nat.le_of_lt mk.lt), hcell⟩
          have isg : ∀ {h : Heap}, h.get? a = some go → h.IsGen a gi := fun e => ⟨go, nm, qn, e, hcls, hdat, hsl⟩
          have K0 : (g.gp X sc.heap.objs.size).Ok := GD.gpOk gk Ic hc
          generalize eG : g.gp X sc.heap.objs.size = G at K0
          let C : Cb := { X := X, pins := pins ++ [(a, go)], item := fun j => zs[n - j]?, fin := fun j => n - j = zs.length, Cn := fun j L O σ H => ∃ Lc s, CnP X.K cl w L0 H0 (us ++ ts) σ0 T F n zs rr j L O σ H Lc s }
          have F0 : C.Fits G := by rw [← eG]; exact gd_fits Ic rfl
          have GS0 : GSs G cl g.body B := by
            have := hB sc.heap.objs.size
            rw [eG] at this
            exact this K0
          have px := GS0.px n _ zs o hn eB
          have zsn : zs.length ≤ n := px.le
          have cn0 : CnP X.K cl w L0 H0 (us ++ ts) σ0 T F n zs rr n [] (L0 ++ w.O0) σ0 H0 L0 sd1 := ⟨by omega, Nat.le_refl _, rfl, W1, .refl, fun _ z => by simp at z, .refl, by rw [Nat.sub_self, List.drop_zero]; exact eF⟩
          have fo : FpOk C.X C.pins H0 sc.heap.objs.size := by
            obtain ⟨f0, f1, f2, f3, f4, f5⟩ := Ic.fpOk (Nat.le_refl _) (Ic.hok.fresh (Nat.le_refl _))
            refine ⟨f0, f1, f2, f3, f4, fun p hp => ?_⟩
            (rcases List.mem_append.mp hp with z | z)
            · exact f5 p (List.mem_append_left _ z)
            · rcases List.mem_append.mp z with z | z
              · exact f5 p (List.mem_append_right _ z)
              · (rw [List.mem_singleton.mp z])
                exact Nat.ne_of_gt mk.lt
          have eA : G.A = X.A.in1 := by rw [← eG]; rfl
          have ePw : model G.P G.w = model X.prog X.w := by rw [← eG]; rfl
          have go0 : GenState.Goes (model X.prog X.w) X.A.in1 (GRd G cl C) (GYd G cl C) n (.fresh (.func g.body (g.env sc.heap.objs.size))) (.send .none) (s1.setGen gi .running) := by
            refine ⟨rfl, seg_func ?_⟩
            have gi0 : GI G cl C [] (fun _ => True) (s1.setGen gi .running) n (L0 ++ w.O0) [] (ds.map Sl.val ++ List.replicate (g.N.length - ds.length) Sl.un) (start g.N vs) H0 (s1.setGen gi .running) := by
              have K1 := K0
              have F1 := F0
              rw [← eG] at K1 F1 ⊢
              exact gi_first K1 F1 (inv_setGen Ip rfl) ⟨L0, sd1, cn0⟩ fo (by rw [hlen]; exact hp) mk.loc mk.kloc W1.alive rA
            have eE : G.env = g.env sc.heap.objs.size := by rw [← eG]; rfl
            have run := GS0.run C [] (fun _ => True) n (s1.setGen gi .running) (.func g.body G.env) [] (fun f => .pure (.done (.ret (match f with | .ret v => v | _ => .none)))) (fun e => (leaving G.env e).wrap (fun _ => .raise e) .raise id id) id id (s1.setGen gi .running) (L0 ++ w.O0) [] _ _ H0 zs o F0 (fun _ _ _ _ => True.intro) ⟨over_func, rfl, rfl, rfl⟩ hn gi0 eB (fun i d e => ?_) ?_
            · rw [eA, ePw, eE] at run
              exact run
            · have hi := (List.getElem?_eq_some_iff.mp e).1
              show zs[n - (n - i)]? = some d
              rw [show n - (n - i) = i by omega]
              exact e
            · have fin : C.fin (n - zs.length) := by
                show n - (n - zs.length) = zs.length
                omega
              match o, eo with
              | none, _ => exact True.intro
              | some (.nx s'), _ =>
                intro s₀ O L σ H s' hI
                obtain ⟨Hw, fp, σc, Lw, gi'⟩ := hI
                exact seg_end (.ok (.ret .none)) (.inl ⟨.inl rfl, fin, O, L, σ, H, [], Hw, fp, σc, Lw, gi'.toGBat⟩)
              | some (.rt .non s'), _ =>
                intro s₀ O L σ H s' v u hI rv rp
                cases rp
                (have eu : u = Value.none := rv)
                subst eu
                exact seg_end (.ok (.ret .none)) (.inl ⟨.inl rfl, fin, O, L, σ, H, [], hI⟩)
          refine codeAny_forLoop_any (fun m s' => ∃ (gs : GenState) (σ : L2.St) (H : Hp) (L O Lc : List Addr) (sl : S), Inv X (pins ++ [(a, go)]) σ H s' ∧ s'.gens[gi]? = some gs ∧
            (m ≠ 0 → gs.Goes (model X.prog X.w) X.A.in1 (GRd G cl C) (GYd G cl C) m (.send .none) (s'.setGen gi .running)) ∧ CnP X.K cl w L0 H0 (us ++ ts) σ0 T F n zs rr m L O σ H Lc sl) ?_ n ⟨_, σ0, H0, [], _, L0, sd1, Ip, mk.at', fun _ => go0, cn0⟩
          rintro m s2 ⟨gs, σ2, H2, Lq, Oq, Lc2, sl2, I2, at2, go2, c2⟩
          have hm : m ≠ 0 := by
            rintro rfl
            have h1 := c2.le
            have h2 := c2.go
            rw [show n - 0 = zs.length by omega, List.drop_length] at h2
            cases h2
            cases o with
            | none => cases hN
            | some x =>
              have := px.less (by simp)
              omega
          have fr0 : ∀ {Lw : List Addr}, (∀ x ∈ Lw, H0 x = none) → ∀ x ∈ Lw, w.H0 x = none := fun h x hx => W1.old (h x hx)
          have no0 : ∀ {Lw : List Addr}, (∀ x ∈ Lw, H0 x = none) → ∀ x ∈ w.I, x ∉ Lw := fun h x hx z => W1.alive x (List.mem_append_right _ (W1.sub x hx)) (h x z)
          have ga : s2.heap.get? a = some go := (I2.pin (a, go) (List.mem_append_right _ (List.mem_append_right _ (List.mem_singleton.mpr rfl)))).1
          have hgl : gi < s2.gens.size := (Array.getElem?_eq_some_iff.mp at2).1
          refine wpAny_gsz (n := gi + 1) hgl (next_slept (n := m) (F := GRf G C) (Er := fun _ _ => False) (Y := GYd G cl C) (I2.ok.hd hc) I2.nolimit hr.depth (isg ga) at2 (go2 hm) (fun v s3 g2 ha hba hv => ?_) (fun s3 hf h' kp => ?_) fun _ _ z => z.elim)
          · obtain ⟨j, rfl⟩ : ∃ j, m = j + 1 := ⟨m - 1, by omega⟩
            intro hsz
            obtain ⟨O, L, sdg, σg, Hg, ip, Φ, x, d, ⟨Hw, fp, σc, Lw, gb⟩, rv, hit, rp, mu, kap⟩ := hv
            obtain ⟨Lc, sl, cw⟩ := gb.cn
            have eO := cw.o
            subst eO
            have gst : Step (wg (Lc ++ w.O0)) Lw Hw L Hg := gb.st
            have Ib : Inv X (pins ++ [(a, go)]) σc Hg s3 := gb.toGBat.back F0
            have I4 : Inv X (pins ++ [(a, go)]) σc Hg (s3.setGen gi g2) := inv_setGen Ib hba
            have fps := gb.toGBat.fps F0
            have hsz' : gi + 1 ≤ (s3.setGen gi g2).gens.size := hsz
            have at4 : (s3.setGen gi g2).gens[gi]? = some g2 := setGen_at (by
              have q : (s3.setGen gi g2).gens.size = s3.gens.size := setGen_size s3 gi g2
              omega)
            have ga4 : (s3.setGen gi g2).heap.get? a = some go := (I4.pin (a, go) (List.mem_append_right _ (List.mem_append_right _ (List.mem_singleton.mpr rfl)))).1
            have I4' := I4.pinned (fun b hb => (fps b hb).1) (fun b hb => (fps b hb).2)
            have gW : Wl G.K cl (wg (Lc ++ w.O0)) L sdg σg Hg := gb.W
            have eK : G.K = X.K := by rw [← eG]; rfl
            rw [eK] at gW rp
            have Wc : Wl X.K cl (wfL w L) Lc sl σc Hg := cw.W.reown gst (fr0 cw.fr) (no0 cw.fr) (fun b hb z => gW.disj b hb (List.mem_append_left _ z)) (fun b hb => gW.alive b (List.mem_append_left _ hb)) W1.sub
            have rp' : Rp X.K cl (hide (Lc ++ (L ++ w.O0)) Hg) x d := rp.mono (hide_sub fun b hb => by
              rcases List.mem_append.mp hb with z | z
              · exact List.mem_append_right _ (List.mem_append_left _ z)
              · rcases List.mem_append.mp z with z | z
                · (exact List.mem_append_left _ z)
                · exact List.mem_append_right _ (List.mem_append_right _ z))
            have stg : Step w L0 H0 Lc Hg := seg_step cw.st gst cw.fr
            have newL : ∀ b ∈ L, H0 b = none := seg_new cw.st gst cw.fr
            have hit : zs[n - (j + 1)]? = some d := hit
            have hlt := (List.getElem?_eq_some_iff.mp hit).1
            have jn := c2.jn
            have cgo : forB T F (zs.drop (n - (j + 1))) sl = some rr := cw.go
            rw [show zs.drop (n - (j + 1)) = d :: zs.drop (n - j) by
              rw [List.drop_eq_getElem_cons hlt, show n - (j + 1) + 1 = n - j by omega, (List.getElem?_eq_some_iff.mp hit).2]] at cgo
            obtain ⟨sl1, out, eT, eF1, hcon⟩ := forB_cons cgo
            refine go_of ga4 hcls hdat (by decide) ?_
            refine wpAny_mono (wpAny_frame (hg.run _ (freeze (s3.setGen gi g2)) σc Hg x v (fun σ' H' => Step (wfL w L) Lc Hg Lc H' ∧ Wl X.K cl (wfL w L) Lc sl1 σ' H' ∧ Agree us σc σ') (inv_nox (inv_freeze I4')) rv
              ⟨(wfL w L), Lc, sl, d, Wc, rp', by rw [eT]; exact fun σ' H' a b c => ⟨a, b, c⟩⟩)) ?_ (fun _ _ ⟨_, _, _, z⟩ => z.elim)
            rintro _ s5 ⟨f5, fz5, rfl, σ5, H5, I5, st5, W5, ag5⟩
            have at5 : (thaw (s3.setGen gi g2).gens f5).gens[gi]? = some g2 := thaw_at fz5 at4 ha
            have I5' := inv_thaw I4.bare (inv_ofNox I5)
            generalize thaw (s3.setGen gi g2).gens f5 = s5 at at5 I5'
            refine wpAny_mono (wpAny_frame (hb.run _ (freeze s5) σ5 H5 (endsB X.K cl (wfL w L) Lc H5 ts σ5 T F (zs.drop (n - j)) rr E) (inv_nox (inv_freeze I5')) ⟨(wfL w L), Lc, sl1, W5, ?_⟩)) ?_ (fun _ _ ⟨_, _, _, z⟩ => z.elim)
            · rw [eF1]
              have stw : ∀ {L' : List Addr} {H' : Hp}, Step (wfL w L) Lc H5 L' H' → Step w L0 H00 L' H' := fun z => st1.trans (stg.trans (Step.trans ⟨st5.keep, st5.alv, st5.new⟩ ⟨z.keep, z.alv, z.new⟩))
              have agw : ∀ {σ'}, Agree ts σ5 σ' → Agree (us ++ ts) σ0 σ' := fun q => (cw.ag.trans (ag5.trans q)).le fun i hi => (List.mem_append.mp hi).elim id id
              match out, hcon with
              | .nx s', hcon => exact fun L' σ' H' a b c => ⟨L', s', a, b, c, hcon⟩
              | .ct s', hcon => exact fun L' σ' H' a b c => ⟨L', s', a, b, c, hcon⟩
              | .bk s', hcon =>
                cases hcon
                cases hN
                exact fun L' σ' H' a b c => h L' σ' H' (stw a) (b.unhide W1.sub) (agw c)
              | .rt dr s', hcon =>
                cases hcon
                cases hN
                exact fun L' σ' H' v a b c => h L' σ' H' v (stw a) (b.unhide W1.sub) (c.mono (hide_sub fun b hb => List.mem_append_right _ hb))
              | .rf dr s', hcon =>
                cases hcon
                cases hN
                exact fun L' σ' H' p a b c e f => h L' σ' H' p (stw a) (b.unhide W1.sub) c (fun z => e (List.mem_append_right _ z)) (f.move rfl (hide_sub fun b hb => by
                  (rcases List.mem_cons.mp hb with z | z)
                  · rw [z]; exact List.mem_cons_self
                  · exact List.mem_cons_of_mem _ (List.mem_append_right _ z)))
            rintro f s6 ⟨f6, fz6, rfl, sp6⟩
            have at6 : (thaw s5.gens f6).gens[gi]? = some g2 := thaw_at fz6 at5 ha
            have inv6 : ∀ {pl σ' H'}, Inv (nox X) pl σ' H' f6 → Inv X pl σ' H' (thaw s5.gens f6) := fun I => inv_thaw I5'.bare (inv_ofNox I)
            generalize thaw s5.gens f6 = s6 at at6 inv6
            have again : ∀ {σ7 : L2.St} {H7 : Hp} {L' : List Addr} {s' : S}, Inv X ((pins ++ [(a, go)]) ++ pinsAt (G.n0 :: ip.map (·.1)) (s3.setGen gi g2).heap) σ7 H7 s6 → Step (wfL w L) Lc H5 L' H7 → Wl X.K cl (wfL w L) L' s' σ7 H7 → Agree ts σ5 σ7 → forB T F (zs.drop (n - j)) s' = some rr →
                ∃ m, m < j + 1 ∧ ∃ (gs : GenState) (σ : L2.St) (H : Hp) (L O Lc : List Addr) (sl : S), Inv X (pins ++ [(a, go)]) σ H s6 ∧ s6.gens[gi]? = some gs ∧
                  (m ≠ 0 → gs.Goes (model X.prog X.w) X.A.in1 (GRd G cl C) (GYd G cl C) m (.send .none) (s6.setGen gi .running)) ∧ CnP X.K cl w L0 H0 (us ++ ts) σ0 T F n zs rr m L O σ H Lc sl := fun {σ7 H7 L' s'} I7 st7 W7 ag7 h7 => by
              have st57 : Step w Lc Hg L' H7 := Step.trans ⟨st5.keep, st5.alv, st5.new⟩ ⟨st7.keep, st7.alv, st7.new⟩
              have cj : CnP X.K cl w L0 H0 (us ++ ts) σ0 T F n zs rr j L (L' ++ w.O0) σ7 H7 L' s' := ⟨by omega, by omega, rfl, W7, stg.trans st57, newL, (cw.ag.trans (ag5.trans ag7)).le fun i hi => (List.mem_append.mp hi).elim id id, h7⟩
              refine ⟨j, Nat.lt_succ_self _, g2, σ7, H7, L, L' ++ w.O0, L', s', I7.unpinned, at6, fun hj => ?_, cj⟩
              refine kap hj (s6.setGen gi .running) σ7 H7 (L' ++ w.O0) (inv_setGen I7.unpinned rfl) ⟨L', s', cj⟩ ⟨fun b o hb e => ?_, st57.alv, fun b hb => ?_, fun b hb => ?_⟩ fun b hb => ?_
              · exact st57.keep b o (fun z => hb (List.mem_append_left _ z)) (fun z => hb (List.mem_append_right _ (W1.sub b z))) e
              · rcases List.mem_append.mp hb with z | z
                · rcases st57.new b z with y | y
                  · exact .inl (List.mem_append_left _ y)
                  · exact .inr y
                · exact .inl (List.mem_append_right _ z)
              · refine W7.alive b ?_
                rcases List.mem_append.mp hb with z | z
                · (exact List.mem_append_left _ z)
                · exact List.mem_append_right _ (List.mem_append_right _ z)
              · obtain ⟨f0, o, eo', _⟩ := fps b hb
                obtain ⟨k1, k2, _⟩ := I7.pin (b, o) (List.mem_append_right _ (List.mem_append_right _ (mem_pinsAt hb eo')))
                exact ⟨⟨k2, f0.2⟩, fun o' e' => by
                  have eo'' : s3.heap.get? b = some o := eo'
                  rw [eo''] at e'
                  cases e'
                  exact k1⟩
            cases f with
            | next =>
              obtain ⟨σ7, H7, I7, L', s', q1, q2, q3, q4⟩ := sp6
              exact again (inv6 I7) q1 q2 q3 q4
            | cont =>
              obtain ⟨σ7, H7, I7, L', s', q1, q2, q3, q4⟩ := sp6
              exact again (inv6 I7) q1 q2 q3 q4
            | brk =>
              obtain ⟨σ7, H7, I7, q⟩ := sp6
              exact ⟨σ7, H7, (inv6 I7).unpinned.unpinned, q⟩
            | ret v =>
              obtain ⟨v7, σ7, H7, I7, r7, q⟩ := sp6
              exact ⟨v7, σ7, H7, (inv6 I7).unpinned.unpinned, r7, q⟩
          · intro _
            obtain ⟨fn, O, L, σg, Hg, ip, Hw, fp, σc, Lw, gb⟩ := hf
            obtain ⟨Lc, sl, cw⟩ := gb.cn
            have fn : n - m = zs.length := fn
            have h2 := cw.go
            rw [fn, List.drop_length] at h2
            cases h2
            have er : r = .ok (.nx sl) := by
              cases o with
              | none => cases hN
              | some x => exact (Option.some.inj hN).symm
            rw [er] at h
            have Ib : Inv X (pins ++ [(a, go)]) σc Hg s3 := gb.back F0
            have Ie : Inv X (pins ++ [(a, go)]) σc Hg { s3.setGen gi .finished with heap := h' } := (inv_setGen (g := gi) (x := .finished) Ib rfl).kept (t' := s3.toks) kp
            refine wpAny_execs_nil ⟨σc, Hg, Ie.unpinned, h Lc σc Hg (st1.trans (seg_step cw.st gb.st cw.fr)) ?_ cw.ag⟩
            exact cw.W.reown (L := []) (O := O) ⟨gb.st.keep, gb.st.alv, fun _ z => by simp at z⟩ (fr0 cw.fr) (no0 cw.fr) (fun _ z => by simp at z) (fun _ z => by simp at z) W1.sub
      · rw [if_neg eo] at hN
        cases hN
end
end Dt
namespace Dt
open PySem PySem.Spec PyProof.Rows L2 GenW
/-! ### a generator def's promise -/
structure FnY (P : Program) (w : World) (K : PySem.W.Frag) (mg : Str → Option Value) (base : Heap) (k : Nat) (f : Addr) (fd : FuncData) (ps : List Str) (g : GD) : Prop where
  ok : g.Ok
  np : ps.length ≤ g.N.length
  run : ∀ (A : Around) (outer : List Env) (s : Shared) (H : Hp) (args : Args) (us : List Value) (vs : List V), Room k A → Env0 P w K mg base A outer s H → BindsTo s fd args (ps.zip us) → Vals vs us → vs.length = ps.length →
    codeAny (model P w) A (.call (.ref f) args) (fun r s' => ∃ a gi, r = .ok (.ret (.ref a)) ∧ GMk g vs s a gi s') s
def gpOf (P : Program) (w : World) (K : PySem.W.Frag) (mg : Str → Option Value) (base : Heap) (g : GD) (A : Around) (outer : List Env) (n0 : Addr) : Gp where
  P := P
  w := w
  K := K
  mg := mg
  base := base
  N := g.N
  qual := g.qual
  scope := g.scope
  f := g.f
  cd := g.cd
  A := A
  outer := outer
  n0 := n0
/-- the body keeps to the mirror -/
def GBody (P : Program) (w : World) (K : PySem.W.Frag) (mg : Str → Option Value) (base : Heap) (cl : Cl) (k : Nat) (g : GD) (B : GM) : Prop := ∀ (A : Around) (outer : List Env) (n0 : Addr), A.guards = some [] → Room k (A.deeper (g.env n0)) → (gpOf P w K mg base g A outer n0).Ok → GSs (gpOf P w K mg base g A outer n0) cl g.body B
section
variable {P : Program} {w : World} {K : PySem.W.Frag} {mg : Str → Option Value} {base : Heap} {f : Addr} {fd : FuncData} {ps N : List Str} {x qual : Str} {params : Arguments} {body : List Stmt} {scope : Scope} {dvs : List V} {kws : List (Str × V)} {k : Nat} {cl : Cl} {B : GM}
theorem okY (D0 : FunD K x qual params body scope dvs kws f fd) (sc : GScope N ps scope) (nc : ∀ y ∈ scope.names, y.2 ≠ .cell) (hn : ps.length ≤ N.length)
    (h : ∀ (cd : Value) (A : Around) (outer : List Env) (n0 : Addr), A.guards = some [] → Room k (A.deeper (envOfC qual scope n0 f cd)) → (gpOf P w K mg base ⟨N, qual, scope, f, cd, body⟩ A outer n0).Ok → GSs (gpOf P w K mg base ⟨N, qual, scope, f, cd, body⟩ A outer n0) cl body B) :
    ∃ g, FnY P w K mg base (k + 1) f fd ps g ∧ g.N = N ∧ GBody P w K mg base cl k g B := by
  obtain ⟨oc, od, dV, kV, doc, pm, an, cdv, ct, osl, rfl, lk, hcd, _, _⟩ := D0.ex
  refine ⟨⟨N, qual, scope, f, cdv, body⟩, ⟨⟨sc.kind, fun n y => ?_, fun y => ⟨fun q => ?_, fun q => ?_⟩⟩, hn, fun A outer s H args us vs hr e0 hb r hl => ?_⟩, rfl, fun A outer n0 hg hr hk => h cdv A outer n0 hg hr hk⟩
  · show (cellsFrom (n + 1) scope.names []).lookup y = none
    cases q : (cellsFrom (n + 1) scope.names []).lookup y with
    | none => rfl
    | some c =>
      have cells : ∀ (l : List (Str × NameKind)) (m : Nat) (acc : List (Str × Addr)), (∀ z ∈ l, z.2 ≠ .cell) → cellsFrom m l acc = acc := by
        intro l
        induction l with
        | nil => intro m acc _; rfl
        | cons z r ih =>
          intro m acc hz
          obtain ⟨nm, kd⟩ := z
          have e : kd ≠ .cell := hz (nm, kd) List.mem_cons_self
          have h2 := ih m acc fun z hz' => hz z (List.mem_cons_of_mem _ hz')
          cases kd with
          | cell => exact absurd rfl e
          | _ => exact h2
      rw [cells scope.names (n + 1) [] nc] at q
      cases q
  · exact nc _ (PySem.mem_of_lookup q) rfl
  · exact sc.nofree _ (PySem.mem_of_lookup q) rfl
  · have KX : K.In s.heap := e0.mod.kin.keeps fun b o e => (e0.bs b o e).1
    (have lim : s.heap.NoLimit := e0.mod.nolimit.keeps fun b o e => (e0.bs b o e).1)
    have par : ∀ y ∈ ps, scope.names.lookup y = some .local := fun y hy => by
      rcases sc.par y hy with q | q
      · exact q
      · exact absurd rfl (nc _ (PySem.mem_of_lookup q))
    refine codeAny_call_generator hr.depth (KX _ _ lk) rfl sc.co sc.gen rfl (PySem.W.codeRec_of KX hcd) (hb _ _ _ _ ?_)
    refine wpAny_newFunctionEnv_cells sc.kind (fun ⟨n, v⟩ hy => .inl (par n (List.of_mem_zip hy).1)) fun env he s1 z => ?_
    subst he
    refine ⟨lim.keeps z.toInCall.keep, s1.heap.objs.size, s1.gens.size, rfl, ?_⟩
    obtain ⟨h1, tk, es1, hk1⟩ := z.done
    have lt1 : s.heap.objs.size < s1.heap.objs.size := z.toInCall.ns.lt
    have hpl : ps.length ≤ N.length := hn
    have arg : ∀ (i : Nat) (y : Str) (v : V), N[i]? = some y → (start N vs)[i]? = some (some v) → y ∈ ps ∧ ∃ u, RelV v u ∧ bindL (envOfC qual scope s.heap.objs.size f cdv).kindOf (ps.zip us) (fun _ => none) y = some u := fun i y v e1 e2 => by
      have hi : i < vs.length := by
        unfold L2.start at e2
        by_cases hi : i < vs.length
        · exact hi
        · rw [List.getElem?_append_right (by simpa using hi), List.getElem?_replicate] at e2
          split at e2 <;> cases e2
      have ha
            : vs[i]? = some v := by
        unfold L2.start at e2
        rw [List.getElem?_append_left (by simpa using hi), List.getElem?_map] at e2
        cases q : vs[i]? with
        | none => rw [q] at e2; cases e2
        | some a => rw [q] at e2; cases e2; rfl
      (obtain ⟨u, hu, rv⟩ := r.get ha)
      have hp
            : ps[i]? = some y := by
        rw [← sc.pre, List.getElem?_take_of_lt (by omega)]
        exact e1
      have ndP : ps.Nodup := by
        rw [← sc.pre]
        exact sc.nd.sublist (List.take_sublist _ _)
      have hy := List.mem_of_getElem? hp
      exact ⟨hy, u, rv, bindL_get ndP hp hu (par y hy)⟩
    refine ⟨⟨_, _, _, Heap.get?_push_size _ rfl, rfl, rfl, rfl⟩, Array.getElem?_push_size .., ?_, ?_, fun b o e => Heap.get?_push_of_some _ (z.toInCall.keep b o e), lt1, ?_, fun i y v e1 e2 => par y (arg i y v e1 e2).1⟩
    · show s1.os = s.os
      rw [es1]
    · refine AllBare.push (gens := s1.gens) ?_ rfl
      rw [es1]
      exact e0.bare
    · refine ⟨_, z.toInCall.ns.keeps fun b o e => Heap.get?_push_of_some _ e, fun i y v e1 e2 => ?_⟩
      obtain ⟨_, u, q1, q2⟩ := arg i y v e1 e2
      exact ⟨u, q1, q2⟩
end
end Dt
namespace Dt
open PySem PySem.Spec PyProof.Rows L2 GenW
def gArgs (n : Nat) (dd : List D) (fr : S → M (List D × S)) : S → M (List D × S) := fun s => bd (fr s) fun p => if (p.1 ++ dd).length = n then ok (p.1 ++ dd, p.2) else none
section
variable {X : Cx} {cl : Cl} {wx : WX} {k n : Nat} {f : Addr} {fd : FuncData} {ps : List Str} {g : GD} {dvs : List V} {ds : List Value} {dd : List D} {x : Str} {p pos : Pos} {e : Expr} {es : List Expr} {fr : S → M (List D × S)}
theorem args_g (hdd : ∀ H : Hp, RpA X.K cl H dvs dd) {σ : L2.St} {H : Hp} {Q : List V → Hp → Prop} (hn : n = ps.length) (h : TAof X.K cl wx (gArgs n dd fr) σ H Q) : TAof X.K cl wx fr σ H fun vs H1 => Q (vs ++ dvs) H1 ∧ (vs ++ dvs).length = ps.length := by
  obtain ⟨w, L, sd, W, h⟩ := h
  refine ⟨w, L, sd, W, PostA.bd botA h fun rs s1 h vs H1 st1 W1 rr => ?_⟩
  dsimp only at h
  split at h
  · next c =>
    have r2 := rr.append (hdd (hide (L ++ w.O0) H1))
    exact ⟨h _ H1 st1 W1 r2, by rw [r2.len, c, hn]⟩
  · exact h.elim
theorem made_g {pins : List (Addr × Obj)} {σ : L2.St} {H1 : Hp} {s1 : Shared} {us : List Value} {vs : List V} {Q : List V → Hp → Prop} {E : Value → Shared → Prop} (F : FnY X.prog X.w X.K X.mg X.base k f fd ps g) (hr : Room k X.A) (hb : Binds X.K fd ps ds) (hd : Vals dvs ds)
    (I1 : Inv X pins σ H1 s1) (r : Vals vs us) (q : Q (vs ++ dvs) H1) (hl : (vs ++ dvs).length = ps.length) : wpAny (model X.prog X.w) X.A (call (.ref f) us) (fun u s' => ∃ (H1 : Hp) (sc : Shared) (vs : List V) (a : Addr) (gi : Nat), u = .ref a ∧ Inv X pins σ H1 sc ∧ Q vs H1 ∧ vs.length = ps.length ∧ GMk g vs sc a gi s') E s1 := by
  (have r2 : Vals (vs ++ dvs) (us ++ ds) := r.append hd)
  have l2 : (us ++ ds).length = ps.length := r2.length.symm.trans hl
  refine wpAny_call (codeAny_mono (F.run X.A X.stack s1 H1 ⟨us, []⟩ (us ++ ds) (vs ++ dvs) hr I1.env0 (hb s1 us I1.kIn l2) r2 hl) fun r s' hq => ?_)
  obtain ⟨a, gi, rfl, mk⟩ := hq
  exact ⟨H1, s1, vs ++ dvs, a, gi, rfl, I1, q, hl, mk⟩
/-- a generator def is called with arguments -/
theorem pgn_call (F : FnY X.prog X.w X.K X.mg X.base k f fd ps g) (hr : Room k X.A) (hm : X.mg x = some (.ref f)) (hk : PySem.W.keepIn X.K (.ref f) = true) (hb : Binds X.K fd ps ds) (hd : Vals dvs ds) (hdd : ∀ H : Hp, RpA X.K cl H dvs dd) (hn : n = ps.length)
    (ha : PA X (e :: es) (TAof X.K cl wx fr)) (hg : Gl X x := by rfl) (hdb : (x == ("__debug__" : Str)) = false := by decide) (hs : starEach (e :: es) X.env = (false, eval e X.env) :: starEach es X.env := by rfl)
    (hpl : (backTo pos (starEach es X.env)).any (·.1) = false := by rfl) : PGn X cl wx (.Call (.Name x p) (e :: es) [] pos) (gArgs n dd fr) g ps.length := by
  (refine ⟨fun pins s σ H Q I h => ?_⟩)
  refine wpAny_Call_Name_kw (ld_glob I hg hm (PySem.W.callWith_K (h₀ := X.base) I.ok.mod.kin hk (thn (ha.run pos pins s σ H _ I (args_g hdd hn h)) ?_) hs hpl) hdb)
  rintro us s1 ⟨vs, H1, I1, r, q, hl⟩
  exact ⟨I1.kIn, made_g F hr hb hd I1 r q hl⟩
/-- f() of a generator def -/
theorem pgn_call0 (F : FnY X.prog X.w X.K X.mg X.base k f fd ps g) (hr : Room k X.A) (hm : X.mg x = some (.ref f)) (hk : PySem.W.keepIn X.K (.ref f) = true) (hb : Binds X.K fd ps ds) (hd : Vals dvs ds) (hdd : ∀ H : Hp, RpA X.K cl H dvs dd) (hn : n = ps.length)
    (hg : Gl X x := by rfl) (hdb : (x == ("__debug__" : Str)) = false := by decide) : PGn X cl wx (.Call (.Name x p) [] [] pos) (gArgs n dd aNil) g ps.length := by
  (refine ⟨fun pins s σ H Q I h => ?_⟩)
  obtain ⟨w, L, sd, W, h⟩ := h
  have h : PostA X.K cl wx w L σ H Q (if dd.length = n then ok (dd, sd) else none) := h
  split at h
  · next c =>
    have r2 : RpA X.K cl (hide (L ++ w.O0) H) dvs dd := hdd _
    have hl : dvs.length = ps.length := r2.len.trans (c.trans hn)
    exact wpAny_Call_Name_kw (ld_glob I hg hm (PySem.W.callWith_K0 I.kIn hk (made_g (vs := []) (us := []) F hr hb hd I .nil (h dvs H .refl W r2) hl)) hdb)
  · exact h.elim
end
section
variable {X : Cx} {cl : Cl} {wx : WX} {tg it : Expr} {body : List Stmt} {pos : Pos} {us ts : List Nat} {fa : S → M (List D × S)} {B : GM} {T : D → S → M S} {F : S → M Out} {g : GD} {k n : Nat} {f : Addr} {fd : FuncData} {ps : List Str}
/-- for x in f(..) -/
theorem s_forY (F0 : FnY X.prog X.w X.K X.mg X.base (k + 1) f fd ps g) (hN : g.N.length = n) (hB : GBody X.prog X.w X.K X.mg X.base cl k g B) (hgd : X.A.guards = some []) (hr : Room (k + 2) X.A) (hc : X.calm = true) (he : PGn X cl wx it fa g ps.length)
    (hg : PG (nox X) tg (TGof X.K cl noW us T)) (hb : PSs (nox X) body (TSof X.K cl noW ts F)) (hs : ∀ v, foldedSetIterable it X.env v = pure v := by intro _; rfl) :
    PS X (.For tg it body [] pos) (TSof X.K cl wx (us ++ ts) (sForG fa B n T F)) := by
  subst hN
  exact s_forG F0.ok F0.np hr hc (fun n0 hk => hB X.A.in1 X.stack n0 hgd (hr.in1.deeper _) hk) he hg hb hs
end
end Dt
namespace Dt
open L2 PySem PySem.Spec PyProof.Rows
section
variable {X : Cx} {K : PySem.W.Frag} {cl : Cl}
theorem i_add : OpK X K cl (inplaceOp .Add) addI := opk_int0 iop_add (fun _ _ _ => .int _) (two_ints (fun _ _ => rfl) fun d e h => by
  cases d <;> cases e <;> first | rfl | exact absurd ⟨rfl, rfl⟩ (h _ _))
theorem i_sub : OpK X K cl (inplaceOp .Sub) subI := opk_int0 iop_sub (fun _ _ _ => .int _) (two_ints (fun _ _ => rfl) fun d e h => by
  cases d <;> cases e <;> first | rfl | exact absurd ⟨rfl, rfl⟩ (h _ _))
theorem oi_mul : OpR X (inplaceOp .Mult) (rI mulOk fun i j => .int (i * j)) := opI fun _ _ _ _ _ _ _ hc q => imul_int q hc.ok
theorem i_mul : OpK X K cl (inplaceOp .Mult) mulI := opk_int oi_mul (fun _ _ _ => .int _) (two_intsC (fun i j => by
    by_cases h : mulOk i j
    · exact .inl ⟨h, by unfold mulI; simp [h]⟩
    · exact .inr (by unfold mulI; simp [h])) fun d e h => by
  cases d <;> cases e <;> first | rfl | exact absurd ⟨rfl, rfl⟩ (h _ _))
end
theorem forG_eq {fa : S → M (List D × S)} {B : GM} {m : Nat} {T : D → S → M S} {F : S → M Out} (px : Pfx B) {n : Nat} {s s1 : S} {ds zs : List D} {o : Option Out} {r : Sum S Out} {out : Out} (hn : 0 < n) (h1 : fa s = ok (ds, s1)) (h2 : B n (ds.map Sl.val ++ List.replicate (m - ds.length) Sl.un) = ok (zs, o)) (h3 : ends? o = true)
    (h4 : forB T F zs s1 = some r) (h5 : endG o r = ok out) : sForG fa B m T F s = ok out := by
  refine sForG_of px hn ?_
  unfold forGN
  rw [h1]
  show (match B n (ds.map Sl.val ++ List.replicate (m - ds.length) Sl.un) with
    | some (.ok (zs, o)) => if ends? o = true then match forB T F zs s1 with
        | some r => endG o r
        | none => none
      else none
    | _ => none) = _
  rw [h2]
  show (if ends? o = true then match forB T F zs s1 with
        | some r => endG o r
        | none => none
      else none) = _
  rw [if_pos h3, h4]
  exact h5
end Dt
noncomputable section
namespace Tf
open PySem PySem.Spec PyProof.Rows L2 Dt
def top (i : Nat) : Stmt := PySem.Challenge.pw_triplefree_k01_members_and_ranks.main.body.getD i (.Pass ⟨0, 0, 0, 0⟩)
def mth (i j : Nat) : Stmt := match top i with
  | .ClassDef _ _ _ b .. => b.getD j (.Pass ⟨0, 0, 0, 0⟩)
  | s => s
def dd (a : At) (x q : Str) (s : Stmt) (dfl : List He.Dv) (kwd : List (Str × He.Dv)) : DefC := ⟨a, x, q, defArgs s, defBody s, defScope s, dfl, kwd⟩
def fn : List DefC := [dd (.fn "is_integer") "is_integer" "is_integer" (top 4) [] [("low", .non), ("high", .non)],
  dd (.fn "check_number") "check_number" "check_number" (top 5) [.int 0, .non] [],
  dd (.fn "digits_in") "digits_in" "digits_in" (top 6) [] [],
  dd (.fn "number_of") "number_of" "number_of" (top 7) [] [],
  dd (.fn "are_plain") "are_plain" "are_plain" (top 8) [] [],
  dd (.fn "power_of") "power_of" "power_of" (top 9) [] [],
  dd (.fn "member_at") "member_at" "member_at" (top 10) [] [],
  dd (.fn "rank_of") "rank_of" "rank_of" (top 11) [] [],
  dd (.fn "base_member") "base_member" "base_member" (top 12) [] [],
  dd (.fn "in_base") "in_base" "in_base" (top 13) [] [],
  dd (.fn "base_rank") "base_rank" "base_rank" (top 14) [] [],
  dd (.fn "next_base") "next_base" "next_base" (top 15) [] [],
  dd (.fn "last_base") "last_base" "last_base" (top 16) [] [],
  dd (.fn "base_members") "base_members" "base_members" (top 17) [.int 0] [],
  dd (.fn "_law_mixed") "_law_mixed" "_law_mixed" (top 19) [] [],
  dd (.fn "_law_stream") "_law_stream" "_law_stream" (top 20) [] [],
  dd (.fn "_law_draw") "_law_draw" "_law_draw" (top 21) [] [],
  dd (.fn "_law_number") "_law_number" "_law_number" (top 22) [] [],
  dd (.fn "_law_digits") "_law_digits" "_law_digits" (top 23) [] [],
  dd (.fn "_law_read") "_law_read" "_law_read" (top 24) [] [],
  dd (.fn "_law_member") "_law_member" "_law_member" (top 25) [] [],
  dd (.fn "_law_below") "_law_below" "_law_below" (top 26) [] [],
  dd (.fn "_law_rank_right") "_law_rank_right" "_law_rank_right" (top 27) [] [],
  dd (.fn "_law_order_right") "_law_order_right" "_law_order_right" (top 28) [] [],
  dd (.fn "law") "law" "law" (top 29) [] []]
def frees : List Str := ["isinstance", "bool", "int", "divmod", "range", "len", "max", "repr", "enumerate"]
def csts : List (Str × Int) := []
def globs : List Str := ((["is_integer", "check_number", "digits_in", "number_of", "are_plain", "power_of", "member_at", "rank_of", "base_member", "in_base", "base_rank", "next_base", "last_base", "base_members", "_law_mixed", "_law_stream", "_law_draw", "_law_number", "_law_digits", "_law_read"] : List Str) ++ (["_law_member", "_law_below", "_law_rank_right", "_law_order_right", "law"] : List Str))
def clsfacts : List He.Fa := []
def fa : List He.Fa := globs.map .glo ++ (frees.map .free ++ ((csts.map fun c => .int c.1 c.2) ++ clsfacts))
def ex (_ : PySem.W.Frag) : Bool := true
abbrev R : PySem.W.OpenRow := PySem.W.OpenLaw.row PySem.Challenge.rw_triplefree_k01_members_and_ranks
abbrev hk : PySem.W.Hook := hookC 6 fa fn ex
def ob (s : PySem.W.SharedT) : AlC := obsCG 6 fa fn ex (HandSHeadRun.getT s)
theorem ob_eq (s : PySem.W.SharedT) : ob s = hk.obs s.abs := obsCG_eq (HandSHeadRun.getT_eq s)
def loose : List PySem.Str := ((["SetError", "InvalidNumber", "is_integer", "check_number", "digits_in", "number_of", "are_plain", "power_of", "member_at", "rank_of", "base_member", "in_base", "base_rank", "next_base", "last_base", "base_members", "_law_mixed", "_law_stream", "_law_draw", "_law_number"] : List Str) ++ (["_law_digits", "_law_read", "_law_member", "_law_below", "_law_rank_right", "_law_order_right"] : List Str))
theorem run (w : World) : HandSHeadRun.RunEq R (PySem.W.view R.prog [29]) hk ob 4000 loose w := by
  intro os
  kernel_rfl
structure Ctx (K : PySem.W.Frag) (mg : Str → Option Value) : Prop where
  says : SaysC fa fn ex K
  glo : ∀ x : Str, x ∈ globs → mg x = some (.ref (He.ga K x))
  fre : ∀ x : Str, x ∈ frees → mg x = none
  cst : ∀ c : Str × Int, c ∈ csts → ∃ t, mg c.1 = some (.int c.2 t)
theorem ctx_of {K : PySem.W.Frag} {h : Heap} {mg : Str → Option Value} (X : K.In h) (G : h.Ns mainGlobals mg) (c : SaysC fa fn ex K) : Ctx K mg :=
  ⟨c, fun x hx => He.glo_ok X G (c.facts (List.mem_append_left _ (List.mem_map.mpr ⟨x, hx, rfl⟩))),
    fun x hx => He.free_ok X G (c.facts (List.mem_append_right _ (List.mem_append_left _ (List.mem_map.mpr ⟨x, hx, rfl⟩)))),
    fun q hq => He.int_ok X G (c.facts (List.mem_append_right _ (List.mem_append_right _ (List.mem_append_left _ (List.mem_map.mpr ⟨q, hq, rfl⟩)))))⟩
def cl0 (K : PySem.W.Frag) : Cl := fun _ => none
/-! is_integer -/
def b_is_integer : S → M Out := (sSeq (sIf (dOr (dNot (dTst (dIsi "int" (dVar 0)))) (dTst (dIsi "bool" (dVar 0))))
    (sRet (dC (.bl false)))
    sNil)
    (sRet (vAnd (vOr (dBin isNon (dVar 1) (dC .non)) (dBin leI (dVar 1) (dVar 0))) (vOr (dBin isNon (dVar 2) (dC .non)) (dBin leI (dVar 0) (dVar 2))))))
def f_is_integer : FnD := runP 3 b_is_integer
theorem sc_is_integer : FnScope ["value", "low", "high"] ["value", "low", "high"] (defScope (top 4)) := ⟨rfl, rfl, rfl, by decide +kernel, rfl, by decide +kernel, by decide +kernel⟩
abbrev D_is_integer (K : PySem.W.Frag) (fd : FuncData) : Prop := FunD K "is_integer" "is_integer" (defArgs (top 4)) (defBody (top 4)) (defScope (top 4)) [] [("low", V.non), ("high", V.non)] (He.ga K "is_integer") fd
theorem ok_is_integer {P : Program} {w : World} {K : PySem.W.Frag} {mg : Str → Option Value} {base : Heap} (Z : Ctx K mg) {fd : FuncData} (F : D_is_integer K fd) : FnG P w K mg base (L2.CX P w) 1 (He.ga K "is_integer") fd ["value", "low", "high"] (spP K (cl0 K) 3 f_is_integer) := by
  have fr_isinstance : mg "isinstance" = none := Z.fre "isinstance" (by decide)
  have fr_bool : mg "bool" = none := Z.fre "bool" (by decide)
  have fr_int : mg "int" = none := Z.fre "int" (by decide)
  have sc := sc_is_integer
  refine okP F sc rfl rfl (F := b_is_integer) fun cdv A outer s H E hg hr tk hp => ?_
  exact ⟨_, (s_cons (s_if (d_or (d_not (d_tst (d_isi (d_var 0) fr_isinstance fr_int rfl rfl))) (d_or1 (d_tst (d_isi (d_var 0) fr_isinstance fr_bool rfl rfl)))).pt
    (s_one (s_ret d_bl))
    s_nil)
    (s_one (s_ret (d_vand (d_vor (d_cmp k_is (d_var 1) d_non) (d_vone (d_cmp k_le (d_var 1) (d_var 0)))) (d_vone (d_vor (d_cmp k_is (d_var 2) d_non) (d_vone (d_cmp k_le (d_var 0) (d_var 2)))))))))⟩
/-! digits_in -/
def b_digits_in : S → M Out := (sSeq (sOwn 2 (dLst aNil))
    (sSeq (sWhile (dTst (dBin gtI (dVar 0) (dC (.int 0))))
    (sSeq (sAsg (dCall divmodN (aCons (dVar 0) (aCons (dVar 1) aNil))) (gTp (gsCons (gNm 0) (gsCons (gNm 3) gsNil))))
    (sApp 2 (dVar 3))))
    (sPub 2 (sRet (dRev (dVar 2))))))
def f_digits_in : FnD := runP 4 b_digits_in
theorem sc_digits_in : FnScope ["number", "radix", "found", "digit"] ["number", "radix"] (defScope (top 6)) := ⟨rfl, rfl, rfl, by decide +kernel, rfl, by decide +kernel, by decide +kernel⟩
abbrev D_digits_in (K : PySem.W.Frag) (fd : FuncData) : Prop := FunD K "digits_in" "digits_in" (defArgs (top 6)) (defBody (top 6)) (defScope (top 6)) [] [] (He.ga K "digits_in") fd
theorem ok_digits_in {P : Program} {w : World} {K : PySem.W.Frag} {mg : Str → Option Value} {base : Heap} (Z : Ctx K mg) {fd : FuncData} (F : D_digits_in K fd) : FnG P w K mg base (L2.CX P w) 1 (He.ga K "digits_in") fd ["number", "radix"] (spP K (cl0 K) 2 f_digits_in) := by
  have fr_divmod : mg "divmod" = none := Z.fre "divmod" (by decide)
  have sc := sc_digits_in
  refine okP F sc rfl rfl (F := b_digits_in) fun cdv A outer s H E hg hr tk hp => ?_
  exact ⟨_, (s_cons (s_own 2 sc.nd (f_lst d_nil))
    (s_cons (s_while hp (d_tcmp k_gt (d_var 0) d_int)
    (s_cons (s_asg (d_callB c_divmod fr_divmod rfl (d_cons (d_var 0) (d_cons (d_var 1) d_nil))) (g_tup rfl (gs_cons (g_name 0 sc.nd) (gs_cons (g_name 3 sc.nd) gs_nil)) 2 (gsl_cons (gsl_cons gsl_nil))))
    (s_one (s_app 2 (d_var 3)))))
    (s_pub 2 (s_one (s_ret (d_of (f_rev (d_var 2))))))))⟩
/-! number_of -/
def b_number_of : S → M Out := (sSeq (sSet 2 (dC (.int 0)))
    (sSeq (sFor (iLst (dVar 0)) (gNm 3)
    (sSet 2 (dBin addI (dBin mulI (dVar 2) (dVar 1)) (dVar 3))))
    (sRet (dVar 2))))
def f_number_of : FnD := runP 4 b_number_of
theorem sc_number_of : FnScope ["digits", "radix", "found", "digit"] ["digits", "radix"] (defScope (top 7)) := ⟨rfl, rfl, rfl, by decide +kernel, rfl, by decide +kernel, by decide +kernel⟩
abbrev D_number_of (K : PySem.W.Frag) (fd : FuncData) : Prop := FunD K "number_of" "number_of" (defArgs (top 7)) (defBody (top 7)) (defScope (top 7)) [] [] (He.ga K "number_of") fd
theorem ok_number_of {P : Program} {w : World} {K : PySem.W.Frag} {mg : Str → Option Value} {base : Heap} (Z : Ctx K mg) {fd : FuncData} (F : D_number_of K fd) : FnG P w K mg base (L2.CX P w) 1 (He.ga K "number_of") fd ["digits", "radix"] (spP K (cl0 K) 2 f_number_of) := by
  have sc := sc_number_of
  refine okP F sc rfl rfl (F := b_number_of) fun cdv A outer s H E hg hr tk hp => ?_
  exact ⟨_, (s_cons (s_set 2 sc.nd d_int)
    (s_cons (s_for hp (w_list (d_var 0)) (g_name 3 sc.nd)
    (s_one (s_set 2 sc.nd (d_op k_add (d_op k_mul (d_var 2) (d_var 1)) (d_var 3)))))
    (s_one (s_ret (d_var 2)))))⟩
/-! are_plain -/
def b_are_plain : S → M Out := (sRet (dBin ninD (dC (.int 2)) (dVar 0)))
def f_are_plain : FnD := runP 1 b_are_plain
theorem sc_are_plain : FnScope ["digits"] ["digits"] (defScope (top 8)) := ⟨rfl, rfl, rfl, by decide +kernel, rfl, by decide +kernel, by decide +kernel⟩
abbrev D_are_plain (K : PySem.W.Frag) (fd : FuncData) : Prop := FunD K "are_plain" "are_plain" (defArgs (top 8)) (defBody (top 8)) (defScope (top 8)) [] [] (He.ga K "are_plain") fd
theorem ok_are_plain {P : Program} {w : World} {K : PySem.W.Frag} {mg : Str → Option Value} {base : Heap} (Z : Ctx K mg) {fd : FuncData} (F : D_are_plain K fd) : FnG P w K mg base (L2.CX P w) 1 (He.ga K "are_plain") fd ["digits"] (spP K (cl0 K) 1 f_are_plain) := by
  have sc := sc_are_plain
  refine okP F sc rfl rfl (F := b_are_plain) fun cdv A outer s H E hg hr tk hp => ?_
  exact ⟨_, (s_one (s_ret (d_cmp (k_ninD (u65 hr)) d_int (d_var 0))))⟩
/-! power_of -/
def b_power_of : S → M Out := (sSeq (sSet 2 (dC (.int 1)))
    (sSeq (sFor (iR1 (aCons (dVar 1) aNil)) (gNm 3)
    (sSet 2 (dBin mulI (dVar 2) (dVar 0))))
    (sRet (dVar 2))))
def f_power_of : FnD := runP 4 b_power_of
theorem sc_power_of : FnScope ["radix", "exponent", "found", "turn"] ["radix", "exponent"] (defScope (top 9)) := ⟨rfl, rfl, rfl, by decide +kernel, rfl, by decide +kernel, by decide +kernel⟩
abbrev D_power_of (K : PySem.W.Frag) (fd : FuncData) : Prop := FunD K "power_of" "power_of" (defArgs (top 9)) (defBody (top 9)) (defScope (top 9)) [] [] (He.ga K "power_of") fd
theorem ok_power_of {P : Program} {w : World} {K : PySem.W.Frag} {mg : Str → Option Value} {base : Heap} (Z : Ctx K mg) {fd : FuncData} (F : D_power_of K fd) : FnG P w K mg base (L2.CX P w) 1 (He.ga K "power_of") fd ["radix", "exponent"] (spP K (cl0 K) 2 f_power_of) := by
  have fr_range : mg "range" = none := Z.fre "range" (by decide)
  have sc := sc_power_of
  refine okP F sc rfl rfl (F := b_power_of) fun cdv A outer s H E hg hr tk hp => ?_
  exact ⟨_, (s_cons (s_set 2 sc.nd d_int)
    (s_cons (s_for hp (w_range1 fr_range (d_cons (d_var 1) d_nil)) (g_name 3 sc.nd)
    (s_one (s_set 2 sc.nd (d_op k_mul (d_var 2) (d_var 0)))))
    (s_one (s_ret (d_var 2)))))⟩
/-! _law_mixed -/
def b__law_mixed : S → M Out := (sSeq (sSet 0 (dBin modI (dBin mulI (dBin addI (dBin addI (dBin modI (dVar 0) (dC (.int 2147483647))) (dBin mulI (dBin mulI (dC (.int 7919)) (dVar 1)) (dVar 1))) (dBin mulI (dC (.int 31)) (dVar 1))) (dC (.int 48271))) (dC (.int 2147483647))))
    (sRet (dBin modI (dBin mulI (dVar 0) (dBin addI (dC (.int 69621)) (dBin mulI (dC (.int 2)) (dVar 1)))) (dC (.int 2147483629)))))
def f__law_mixed : FnD := runP 2 b__law_mixed
theorem sc__law_mixed : FnScope ["_law_amount", "_law_k"] ["_law_amount", "_law_k"] (defScope (top 19)) := ⟨rfl, rfl, rfl, by decide +kernel, rfl, by decide +kernel, by decide +kernel⟩
abbrev D__law_mixed (K : PySem.W.Frag) (fd : FuncData) : Prop := FunD K "_law_mixed" "_law_mixed" (defArgs (top 19)) (defBody (top 19)) (defScope (top 19)) [] [] (He.ga K "_law_mixed") fd
theorem ok__law_mixed {P : Program} {w : World} {K : PySem.W.Frag} {mg : Str → Option Value} {base : Heap} (Z : Ctx K mg) {fd : FuncData} (F : D__law_mixed K fd) : FnG P w K mg base (L2.CX P w) 1 (He.ga K "_law_mixed") fd ["_law_amount", "_law_k"] (spP K (cl0 K) 2 f__law_mixed) := by
  have sc := sc__law_mixed
  refine okP F sc rfl rfl (F := b__law_mixed) fun cdv A outer s H E hg hr tk hp => ?_
  exact ⟨_, (s_cons (s_set 0 sc.nd (d_op k_mod (d_op k_mul (d_op k_add (d_op k_add (d_op k_mod (d_var 0) d_int) (d_op k_mul (d_op k_mul d_int (d_var 1)) (d_var 1))) (d_op k_mul d_int (d_var 1))) d_int) d_int))
    (s_one (s_ret (d_op k_mod (d_op k_mul (d_var 0) (d_op k_add d_int (d_op k_mul d_int (d_var 1)))) d_int))))⟩
/-! _law_digits -/
def b__law_digits : S → M Out := (sSeq (sOwn 2 (dLst aNil))
    (sSeq (sWhile (dTst (dBin gtI (dVar 0) (dC (.int 0))))
    (sSeq (sApp 2 (dBin modI (dVar 0) (dVar 1)))
    (sSet 0 (dBin divI (dVar 0) (dVar 1)))))
    (sPub 2 (sRet (dVar 2)))))
def f__law_digits : FnD := runP 3 b__law_digits
theorem sc__law_digits : FnScope ["_law_given", "_law_radix", "_law_found"] ["_law_given", "_law_radix"] (defScope (top 23)) := ⟨rfl, rfl, rfl, by decide +kernel, rfl, by decide +kernel, by decide +kernel⟩
abbrev D__law_digits (K : PySem.W.Frag) (fd : FuncData) : Prop := FunD K "_law_digits" "_law_digits" (defArgs (top 23)) (defBody (top 23)) (defScope (top 23)) [] [] (He.ga K "_law_digits") fd
theorem ok__law_digits {P : Program} {w : World} {K : PySem.W.Frag} {mg : Str → Option Value} {base : Heap} (Z : Ctx K mg) {fd : FuncData} (F : D__law_digits K fd) : FnG P w K mg base (L2.CX P w) 1 (He.ga K "_law_digits") fd ["_law_given", "_law_radix"] (spP K (cl0 K) 2 f__law_digits) := by
  have sc := sc__law_digits
  refine okP F sc rfl rfl (F := b__law_digits) fun cdv A outer s H E hg hr tk hp => ?_
  exact ⟨_, (s_cons (s_own 2 sc.nd (f_lst d_nil))
    (s_cons (s_while hp (d_tcmp k_gt (d_var 0) d_int)
    (s_cons (s_app 2 (d_op k_mod (d_var 0) (d_var 1)))
    (s_one (s_set 0 sc.nd (d_op k_div (d_var 0) (d_var 1))))))
    (s_pub 2 (s_one (s_ret (d_var 2))))))⟩
/-! _law_read -/
def b__law_read : S → M Out := (sSeq (sSet 2 (dC (.int 0)))
    (sSeq (sFor (iLst (dRev (dVar 0))) (gNm 3)
    (sSet 2 (dBin addI (dBin mulI (dVar 2) (dVar 1)) (dVar 3))))
    (sRet (dVar 2))))
def f__law_read : FnD := runP 4 b__law_read
theorem sc__law_read : FnScope ["_law_digits_here", "_law_radix", "_law_found", "_law_digit"] ["_law_digits_here", "_law_radix"] (defScope (top 24)) := ⟨rfl, rfl, rfl, by decide +kernel, rfl, by decide +kernel, by decide +kernel⟩
abbrev D__law_read (K : PySem.W.Frag) (fd : FuncData) : Prop := FunD K "_law_read" "_law_read" (defArgs (top 24)) (defBody (top 24)) (defScope (top 24)) [] [] (He.ga K "_law_read") fd
theorem ok__law_read {P : Program} {w : World} {K : PySem.W.Frag} {mg : Str → Option Value} {base : Heap} (Z : Ctx K mg) {fd : FuncData} (F : D__law_read K fd) : FnG P w K mg base (L2.CX P w) 1 (He.ga K "_law_read") fd ["_law_digits_here", "_law_radix"] (spP K (cl0 K) 2 f__law_read) := by
  have sc := sc__law_read
  refine okP F sc rfl rfl (F := b__law_read) fun cdv A outer s H E hg hr tk hp => ?_
  exact ⟨_, (s_cons (s_set 2 sc.nd d_int)
    (s_cons (s_for hp (w_list (d_of (f_rev (d_var 0)))) (g_name 3 sc.nd)
    (s_one (s_set 2 sc.nd (d_op k_add (d_op k_mul (d_var 2) (d_var 1)) (d_var 3)))))
    (s_one (s_ret (d_var 2)))))⟩
/-! check_number -/
def b_check_number : S → M Out := (sIf (dNot (dTst (dCallK 3 1 2 f_is_integer (fun as bs => as ++ bs) (aCons (dVar 0) aNil) (aCons (dVar 1) (aCons (dVar 2) aNil)))))
    sNever
    sNil)
def f_check_number : FnD := runP 3 b_check_number
theorem sc_check_number : FnScope ["value", "low", "high"] ["value", "low", "high"] (defScope (top 5)) := ⟨rfl, rfl, rfl, by decide +kernel, rfl, by decide +kernel, by decide +kernel⟩
abbrev D_check_number (K : PySem.W.Frag) (fd : FuncData) : Prop := FunD K "check_number" "check_number" (defArgs (top 5)) (defBody (top 5)) (defScope (top 5)) [(V.int 0), V.non] [] (He.ga K "check_number") fd
theorem ok_check_number {P : Program} {w : World} {K : PySem.W.Frag} {mg : Str → Option Value} {base : Heap} (Z : Ctx K mg) {fd : FuncData} (F : D_check_number K fd) : FnG P w K mg base (L2.CX P w) 2 (He.ga K "check_number") fd ["value", "low", "high"] (spP K (cl0 K) 3 f_check_number) := by
  obtain ⟨fd_is_integer, F_is_integer⟩ : ∃ fd, D_is_integer K fd := Z.says.def_ 0 (d := (dd (.fn "is_integer") "is_integer" "is_integer" (top 4) [] [("low", .non), ("high", .non)])) rfl
  have G_is_integer : FnG P w K mg base (L2.CX P w) 1 _ fd_is_integer ["value", "low", "high"] _ := ok_is_integer Z F_is_integer
  have m_is_integer : mg "is_integer" = some (.ref (He.ga K "is_integer")) := Z.glo "is_integer" (by decide)
  obtain ⟨mvb_is_integer_1_low_high, b_is_integer_1_low_high⟩ := F_is_integer.kbinds0 1 ["low", "high"] [] (ps := ["value", "low", "high"]) (fun as _ bs => as ++ bs) (by decide) (fun _ h => by cases h) (fun a _ b => a.append b) fun _ _ _ _ _ _ us mv ws h1 h0 h2 => match us, mv, ws, h1, h0, h2 with | [_], [], [_, _], _, _, _ => rfl
  have sc := sc_check_number
  refine okP F sc rfl rfl (F := b_check_number) fun cdv A outer s H E hg hr tk hp => ?_
  exact ⟨_, (s_one (s_if (d_not (d_tst (d_callK (ks := ["low", "high"]) (gD := (fun as bs => as ++ bs)) G_is_integer hg (hr.mono (by decide)) m_is_integer F_is_integer.kp b_is_integer_1_low_high (fun _ _ _ _ _ a b => a.append b) (d_cons (d_var 0) d_nil) (k_cons (d_var 1) (k_cons (d_var 2) k_nil)))))
    (s_one s_never)
    s_nil))⟩
/-! member_at -/
def b_member_at : S → M Out := (sRet (dCallU 2 f_number_of [] (aCons (dCallU 2 f_digits_in [] (aCons (dVar 0) (aCons (dC (.int 2)) aNil))) (aCons (dC (.int 3)) aNil))))
def f_member_at : FnD := runP 1 b_member_at
theorem sc_member_at : FnScope ["number"] ["number"] (defScope (top 10)) := ⟨rfl, rfl, rfl, by decide +kernel, rfl, by decide +kernel, by decide +kernel⟩
abbrev D_member_at (K : PySem.W.Frag) (fd : FuncData) : Prop := FunD K "member_at" "member_at" (defArgs (top 10)) (defBody (top 10)) (defScope (top 10)) [] [] (He.ga K "member_at") fd
theorem ok_member_at {P : Program} {w : World} {K : PySem.W.Frag} {mg : Str → Option Value} {base : Heap} (Z : Ctx K mg) {fd : FuncData} (F : D_member_at K fd) : FnG P w K mg base (L2.CX P w) 2 (He.ga K "member_at") fd ["number"] (spP K (cl0 K) 1 f_member_at) := by
  obtain ⟨fd_number_of, F_number_of⟩ : ∃ fd, D_number_of K fd := Z.says.def_ 3 (d := (dd (.fn "number_of") "number_of" "number_of" (top 7) [] [])) rfl
  have G_number_of : FnG P w K mg base (L2.CX P w) 1 _ fd_number_of ["digits", "radix"] _ := ok_number_of Z F_number_of
  have m_number_of : mg "number_of" = some (.ref (He.ga K "number_of")) := Z.glo "number_of" (by decide)
  obtain ⟨fd_digits_in, F_digits_in⟩ : ∃ fd, D_digits_in K fd := Z.says.def_ 2 (d := (dd (.fn "digits_in") "digits_in" "digits_in" (top 6) [] [])) rfl
  have G_digits_in : FnG P w K mg base (L2.CX P w) 1 _ fd_digits_in ["number", "radix"] _ := ok_digits_in Z F_digits_in
  have m_digits_in : mg "digits_in" = some (.ref (He.ga K "digits_in")) := Z.glo "digits_in" (by decide)
  have b_number_of : Binds K fd_number_of ["digits", "radix"] [] := F_number_of.bindsN fun _ _ _ _ _ _ us hl => match us, hl with | [_, _], _ => rfl
  have b_digits_in : Binds K fd_digits_in ["number", "radix"] [] := F_digits_in.bindsN fun _ _ _ _ _ _ us hl => match us, hl with | [_, _], _ => rfl
  have sc := sc_member_at
  refine okP F sc rfl rfl (F := b_member_at) fun cdv A outer s H E hg hr tk hp => ?_
  exact ⟨_, (s_one (s_ret (d_call G_number_of hg (hr.mono (by decide)) m_number_of F_number_of.kp b_number_of .nil (fun _ => .nil) (d_cons (d_call G_digits_in hg (hr.mono (by decide)) m_digits_in F_digits_in.kp b_digits_in .nil (fun _ => .nil) (d_cons (d_var 0) (d_cons d_int d_nil))) (d_cons d_int d_nil)))))⟩
/-! rank_of -/
def b_rank_of : S → M Out := (sSeq (sSet 1 (dCallU 2 f_digits_in [] (aCons (dVar 0) (aCons (dC (.int 3)) aNil))))
    (sSeq (sIf (dTst (dCallU 1 f_are_plain [] (aCons (dVar 1) aNil)))
    (sRet (dCallU 2 f_number_of [] (aCons (dVar 1) (aCons (dC (.int 2)) aNil))))
    sNil)
    (sSeq (sSet 2 (dIdx (dVar 1) (dC (.int 2))))
    (sRet (dBin mulI (dBin addI (dCallU 2 f_number_of [] (aCons (dCutL (dVar 1) partNo (partAt (dVar 2))) (aCons (dC (.int 2)) aNil))) (dC (.int 1))) (dCallU 2 f_power_of [] (aCons (dC (.int 2)) (aCons (dBin subI (dCall lenN (aCons (dVar 1) aNil)) (dVar 2)) aNil))))))))
def f_rank_of : FnD := runP 3 b_rank_of
theorem sc_rank_of : FnScope ["x", "digits", "place"] ["x"] (defScope (top 11)) := ⟨rfl, rfl, rfl, by decide +kernel, rfl, by decide +kernel, by decide +kernel⟩
abbrev D_rank_of (K : PySem.W.Frag) (fd : FuncData) : Prop := FunD K "rank_of" "rank_of" (defArgs (top 11)) (defBody (top 11)) (defScope (top 11)) [] [] (He.ga K "rank_of") fd
theorem ok_rank_of {P : Program} {w : World} {K : PySem.W.Frag} {mg : Str → Option Value} {base : Heap} (Z : Ctx K mg) {fd : FuncData} (F : D_rank_of K fd) : FnG P w K mg base (L2.CX P w) 2 (He.ga K "rank_of") fd ["x"] (spP K (cl0 K) 1 f_rank_of) := by
  have fr_len : mg "len" = none := Z.fre "len" (by decide)
  obtain ⟨fd_digits_in, F_digits_in⟩ : ∃ fd, D_digits_in K fd := Z.says.def_ 2 (d := (dd (.fn "digits_in") "digits_in" "digits_in" (top 6) [] [])) rfl
  have G_digits_in : FnG P w K mg base (L2.CX P w) 1 _ fd_digits_in ["number", "radix"] _ := ok_digits_in Z F_digits_in
  have m_digits_in : mg "digits_in" = some (.ref (He.ga K "digits_in")) := Z.glo "digits_in" (by decide)
  obtain ⟨fd_are_plain, F_are_plain⟩ : ∃ fd, D_are_plain K fd := Z.says.def_ 4 (d := (dd (.fn "are_plain") "are_plain" "are_plain" (top 8) [] [])) rfl
  have G_are_plain : FnG P w K mg base (L2.CX P w) 1 _ fd_are_plain ["digits"] _ := ok_are_plain Z F_are_plain
  have m_are_plain : mg "are_plain" = some (.ref (He.ga K "are_plain")) := Z.glo "are_plain" (by decide)
  obtain ⟨fd_number_of, F_number_of⟩ : ∃ fd, D_number_of K fd := Z.says.def_ 3 (d := (dd (.fn "number_of") "number_of" "number_of" (top 7) [] [])) rfl
  have G_number_of : FnG P w K mg base (L2.CX P w) 1 _ fd_number_of ["digits", "radix"] _ := ok_number_of Z F_number_of
  have m_number_of : mg "number_of" = some (.ref (He.ga K "number_of")) := Z.glo "number_of" (by decide)
  obtain ⟨fd_power_of, F_power_of⟩ : ∃ fd, D_power_of K fd := Z.says.def_ 5 (d := (dd (.fn "power_of") "power_of" "power_of" (top 9) [] [])) rfl
  have G_power_of : FnG P w K mg base (L2.CX P w) 1 _ fd_power_of ["radix", "exponent"] _ := ok_power_of Z F_power_of
  have m_power_of : mg "power_of" = some (.ref (He.ga K "power_of")) := Z.glo "power_of" (by decide)
  have b_digits_in : Binds K fd_digits_in ["number", "radix"] [] := F_digits_in.bindsN fun _ _ _ _ _ _ us hl => match us, hl with | [_, _], _ => rfl
  have b_are_plain : Binds K fd_are_plain ["digits"] [] := F_are_plain.bindsN fun _ _ _ _ _ _ us hl => match us, hl with | [_], _ => rfl
  have b_number_of : Binds K fd_number_of ["digits", "radix"] [] := F_number_of.bindsN fun _ _ _ _ _ _ us hl => match us, hl with | [_, _], _ => rfl
  have b_power_of : Binds K fd_power_of ["radix", "exponent"] [] := F_power_of.bindsN fun _ _ _ _ _ _ us hl => match us, hl with | [_, _], _ => rfl
  have sc := sc_rank_of
  refine okP F sc rfl rfl (F := b_rank_of) fun cdv A outer s H E hg hr tk hp => ?_
  exact ⟨_, (s_cons (s_set 1 sc.nd (d_call G_digits_in hg (hr.mono (by decide)) m_digits_in F_digits_in.kp b_digits_in .nil (fun _ => .nil) (d_cons (d_var 0) (d_cons d_int d_nil))))
    (s_cons (s_if (d_tst (d_call G_are_plain hg (hr.mono (by decide)) m_are_plain F_are_plain.kp b_are_plain .nil (fun _ => .nil) (d_cons (d_var 1) d_nil)))
    (s_one (s_ret (d_call G_number_of hg (hr.mono (by decide)) m_number_of F_number_of.kp b_number_of .nil (fun _ => .nil) (d_cons (d_var 1) (d_cons d_int d_nil)))))
    s_nil)
    (s_cons (s_set 2 sc.nd (d_index (u65 hr) (d_var 1) d_int))
    (s_one (s_ret (d_op k_mul (d_op k_add (d_call G_number_of hg (hr.mono (by decide)) m_number_of F_number_of.kp b_number_of .nil (fun _ => .nil) (d_cons (d_of (f_cutL (d_var 1) o_none (o_some (d_var 2)))) (d_cons d_int d_nil))) d_int) (d_call G_power_of hg (hr.mono (by decide)) m_power_of F_power_of.kp b_power_of .nil (fun _ => .nil) (d_cons d_int (d_cons (d_op k_sub (d_callB c_len fr_len rfl (d_cons (d_var 1) d_nil)) (d_var 2)) d_nil)))))))))⟩
/-! _law_stream -/
def b__law_stream : S → M Out := (sRetF (dLst (aCons (dIf (dTst (dBin geI (dVar 0) (dBin powI (dC (.int 10)) (dC (.int 18))))) (dVar 0) (dC (.int 0))) (aCons (dC (.int 0)) (aCons (dCallU 2 f__law_mixed [] (aCons (dVar 0) (aCons (dVar 1) aNil))) aNil)))))
def f__law_stream : FnD := runF 2 b__law_stream
theorem sc__law_stream : FnScope ["_law_item", "_law_k"] ["_law_item", "_law_k"] (defScope (top 20)) := ⟨rfl, rfl, rfl, by decide +kernel, rfl, by decide +kernel, by decide +kernel⟩
abbrev D__law_stream (K : PySem.W.Frag) (fd : FuncData) : Prop := FunD K "_law_stream" "_law_stream" (defArgs (top 20)) (defBody (top 20)) (defScope (top 20)) [] [] (He.ga K "_law_stream") fd
theorem ok__law_stream {P : Program} {w : World} {K : PySem.W.Frag} {mg : Str → Option Value} {base : Heap} (Z : Ctx K mg) {fd : FuncData} (F : D__law_stream K fd) : FnG P w K mg base (L2.CX P w) 2 (He.ga K "_law_stream") fd ["_law_item", "_law_k"] (spF K (cl0 K) 2 f__law_stream) := by
  obtain ⟨fd__law_mixed, F__law_mixed⟩ : ∃ fd, D__law_mixed K fd := Z.says.def_ 14 (d := (dd (.fn "_law_mixed") "_law_mixed" "_law_mixed" (top 19) [] [])) rfl
  have G__law_mixed : FnG P w K mg base (L2.CX P w) 1 _ fd__law_mixed ["_law_amount", "_law_k"] _ := ok__law_mixed Z F__law_mixed
  have m__law_mixed : mg "_law_mixed" = some (.ref (He.ga K "_law_mixed")) := Z.glo "_law_mixed" (by decide)
  have b__law_mixed : Binds K fd__law_mixed ["_law_amount", "_law_k"] [] := F__law_mixed.bindsN fun _ _ _ _ _ _ us hl => match us, hl with | [_, _], _ => rfl
  have sc := sc__law_stream
  refine okF F sc rfl rfl (F := b__law_stream) fun cdv A outer s H E hg hr tk hp => ?_
  exact ⟨_, (s_one (s_retF (f_lst (d_cons (d_ifx (d_tcmp k_ge (d_var 0) (d_op k_pow d_int d_int)) (d_var 0) d_int) (d_cons d_int (d_cons (d_call G__law_mixed hg (hr.mono (by decide)) m__law_mixed F__law_mixed.kp b__law_mixed .nil (fun _ => .nil) (d_cons (d_var 0) (d_cons (d_var 1) d_nil))) d_nil))))))⟩
/-! _law_draw -/
def b__law_draw : S → M Out := (sSeq (sPut 0 (dC (.int 1)) (dBin addI (dOwnIx 0 (dC (.int 1))) (dC (.int 1))))
    (sSeq (sIf (dTst (dBin eqD (dOwnIx 0 (dC (.int 0))) (dC (.int 0))))
    (sRet (dBin modI (dCallU 2 f__law_mixed [] (aCons (dCallU 2 f__law_mixed [] (aCons (dOwnIx 0 (dC (.int 2))) (aCons (dOwnIx 0 (dC (.int 1))) aNil))) (aCons (dC (.int 7)) aNil))) (dVar 1)))
    sNil)
    (sSeq (sSet 2 (dBin modI (dOwnIx 0 (dC (.int 0))) (dVar 1)))
    (sSeq (sPut 0 (dC (.int 0)) (dBin divI (dOwnIx 0 (dC (.int 0))) (dVar 1)))
    (sRet (dVar 2))))))
def f__law_draw : D → List D → M (D × D) := runI 3 b__law_draw
theorem sc__law_draw : FnScope ["_law_stream_here", "_law_top", "_law_amount"] ["_law_stream_here", "_law_top"] (defScope (top 21)) := ⟨rfl, rfl, rfl, by decide +kernel, rfl, by decide +kernel, by decide +kernel⟩
abbrev D__law_draw (K : PySem.W.Frag) (fd : FuncData) : Prop := FunD K "_law_draw" "_law_draw" (defArgs (top 21)) (defBody (top 21)) (defScope (top 21)) [] [] (He.ga K "_law_draw") fd
theorem ok__law_draw {P : Program} {w : World} {K : PySem.W.Frag} {mg : Str → Option Value} {base : Heap} (Z : Ctx K mg) {fd : FuncData} (F : D__law_draw K fd) : FnG P w K mg base (L2.CX P w) 2 (He.ga K "_law_draw") fd ["_law_stream_here", "_law_top"] (spI K (cl0 K) 2 f__law_draw) := by
  obtain ⟨fd__law_mixed, F__law_mixed⟩ : ∃ fd, D__law_mixed K fd := Z.says.def_ 14 (d := (dd (.fn "_law_mixed") "_law_mixed" "_law_mixed" (top 19) [] [])) rfl
  have G__law_mixed : FnG P w K mg base (L2.CX P w) 1 _ fd__law_mixed ["_law_amount", "_law_k"] _ := ok__law_mixed Z F__law_mixed
  have m__law_mixed : mg "_law_mixed" = some (.ref (He.ga K "_law_mixed")) := Z.glo "_law_mixed" (by decide)
  have b__law_mixed : Binds K fd__law_mixed ["_law_amount", "_law_k"] [] := F__law_mixed.bindsN fun _ _ _ _ _ _ us hl => match us, hl with | [_, _], _ => rfl
  have sc := sc__law_draw
  refine okI F sc rfl rfl (by decide) (F := b__law_draw) fun cdv A outer s H E hg hr tk hp => ?_
  exact ⟨_, (s_cons (s_put 0 (d_op k_add (d_ownIx 0 d_int (fun _ _ => rfl)) d_int) d_int)
    (s_cons (s_if (d_tcmp (k_eqD (u64 hr)) (d_ownIx 0 d_int (fun _ _ => rfl)) d_int)
    (s_one (s_ret (d_op k_mod (d_call G__law_mixed hg (hr.mono (by decide)) m__law_mixed F__law_mixed.kp b__law_mixed .nil (fun _ => .nil) (d_cons (d_call G__law_mixed hg (hr.mono (by decide)) m__law_mixed F__law_mixed.kp b__law_mixed .nil (fun _ => .nil) (d_cons (d_ownIx 0 d_int (fun _ _ => rfl)) (d_cons (d_ownIx 0 d_int (fun _ _ => rfl)) d_nil))) (d_cons d_int d_nil))) (d_var 1))))
    s_nil)
    (s_cons (s_set 2 sc.nd (d_op k_mod (d_ownIx 0 d_int (fun _ _ => rfl)) (d_var 1)))
    (s_cons (s_put 0 (d_op k_div (d_ownIx 0 d_int (fun _ _ => rfl)) (d_var 1)) d_int)
    (s_one (s_ret (d_var 2)))))))⟩
/-! _law_member -/
def b__law_member : S → M Out := (sRet (dCallU 2 f__law_read [] (aCons (dCallU 2 f__law_digits [] (aCons (dVar 0) (aCons (dC (.int 2)) aNil))) (aCons (dC (.int 3)) aNil))))
def f__law_member : FnD := runP 1 b__law_member
theorem sc__law_member : FnScope ["_law_order"] ["_law_order"] (defScope (top 25)) := ⟨rfl, rfl, rfl, by decide +kernel, rfl, by decide +kernel, by decide +kernel⟩
abbrev D__law_member (K : PySem.W.Frag) (fd : FuncData) : Prop := FunD K "_law_member" "_law_member" (defArgs (top 25)) (defBody (top 25)) (defScope (top 25)) [] [] (He.ga K "_law_member") fd
theorem ok__law_member {P : Program} {w : World} {K : PySem.W.Frag} {mg : Str → Option Value} {base : Heap} (Z : Ctx K mg) {fd : FuncData} (F : D__law_member K fd) : FnG P w K mg base (L2.CX P w) 2 (He.ga K "_law_member") fd ["_law_order"] (spP K (cl0 K) 1 f__law_member) := by
  obtain ⟨fd__law_read, F__law_read⟩ : ∃ fd, D__law_read K fd := Z.says.def_ 19 (d := (dd (.fn "_law_read") "_law_read" "_law_read" (top 24) [] [])) rfl
  have G__law_read : FnG P w K mg base (L2.CX P w) 1 _ fd__law_read ["_law_digits_here", "_law_radix"] _ := ok__law_read Z F__law_read
  have m__law_read : mg "_law_read" = some (.ref (He.ga K "_law_read")) := Z.glo "_law_read" (by decide)
  obtain ⟨fd__law_digits, F__law_digits⟩ : ∃ fd, D__law_digits K fd := Z.says.def_ 18 (d := (dd (.fn "_law_digits") "_law_digits" "_law_digits" (top 23) [] [])) rfl
  have G__law_digits : FnG P w K mg base (L2.CX P w) 1 _ fd__law_digits ["_law_given", "_law_radix"] _ := ok__law_digits Z F__law_digits
  have m__law_digits : mg "_law_digits" = some (.ref (He.ga K "_law_digits")) := Z.glo "_law_digits" (by decide)
  have b__law_read : Binds K fd__law_read ["_law_digits_here", "_law_radix"] [] := F__law_read.bindsN fun _ _ _ _ _ _ us hl => match us, hl with | [_, _], _ => rfl
  have b__law_digits : Binds K fd__law_digits ["_law_given", "_law_radix"] [] := F__law_digits.bindsN fun _ _ _ _ _ _ us hl => match us, hl with | [_, _], _ => rfl
  have sc := sc__law_member
  refine okP F sc rfl rfl (F := b__law_member) fun cdv A outer s H E hg hr tk hp => ?_
  exact ⟨_, (s_one (s_ret (d_call G__law_read hg (hr.mono (by decide)) m__law_read F__law_read.kp b__law_read .nil (fun _ => .nil) (d_cons (d_call G__law_digits hg (hr.mono (by decide)) m__law_digits F__law_digits.kp b__law_digits .nil (fun _ => .nil) (d_cons (d_var 0) (d_cons d_int d_nil))) (d_cons d_int d_nil)))))⟩
/-! base_member -/
def b_base_member : S → M Out := (sSeq (sExpr (dCallU 3 f_check_number [.int 0, .non] (aCons (dVar 0) aNil)))
    (sRet (dCallU 1 f_member_at [] (aCons (dVar 0) aNil))))
def f_base_member : FnD := runP 1 b_base_member
theorem sc_base_member : FnScope ["number"] ["number"] (defScope (top 12)) := ⟨rfl, rfl, rfl, by decide +kernel, rfl, by decide +kernel, by decide +kernel⟩
abbrev D_base_member (K : PySem.W.Frag) (fd : FuncData) : Prop := FunD K "base_member" "base_member" (defArgs (top 12)) (defBody (top 12)) (defScope (top 12)) [] [] (He.ga K "base_member") fd
theorem ok_base_member {P : Program} {w : World} {K : PySem.W.Frag} {mg : Str → Option Value} {base : Heap} (Z : Ctx K mg) {fd : FuncData} (F : D_base_member K fd) : FnG P w K mg base (L2.CX P w) 3 (He.ga K "base_member") fd ["number"] (spP K (cl0 K) 1 f_base_member) := by
  obtain ⟨fd_check_number, F_check_number⟩ : ∃ fd, D_check_number K fd := Z.says.def_ 1 (d := (dd (.fn "check_number") "check_number" "check_number" (top 5) [.int 0, .non] [])) rfl
  have G_check_number : FnG P w K mg base (L2.CX P w) 2 _ fd_check_number ["value", "low", "high"] _ := ok_check_number Z F_check_number
  have m_check_number : mg "check_number" = some (.ref (He.ga K "check_number")) := Z.glo "check_number" (by decide)
  obtain ⟨fd_member_at, F_member_at⟩ : ∃ fd, D_member_at K fd := Z.says.def_ 6 (d := (dd (.fn "member_at") "member_at" "member_at" (top 10) [] [])) rfl
  have G_member_at : FnG P w K mg base (L2.CX P w) 2 _ fd_member_at ["number"] _ := ok_member_at Z F_member_at
  have m_member_at : mg "member_at" = some (.ref (He.ga K "member_at")) := Z.glo "member_at" (by decide)
  obtain ⟨db_check_number_1, vb_check_number_1, b_check_number_1⟩ : ∃ ds, Vals [(V.int 0), V.non] ds ∧ Binds K fd_check_number ["value", "low", "high"] ds := F_check_number.binds1 1 0 (by decide) rfl fun _ _ _ _ _ _ _ us ks h1 h2 => match us, ks, h1, h2 with | [_], [_, _], _, _ => ⟨_, rfl, rfl⟩
  have b_member_at : Binds K fd_member_at ["number"] [] := F_member_at.bindsN fun _ _ _ _ _ _ us hl => match us, hl with | [_], _ => rfl
  have sc := sc_base_member
  refine okP F sc rfl rfl (F := b_base_member) fun cdv A outer s H E hg hr tk hp => ?_
  exact ⟨_, (s_cons (s_expr (d_call G_check_number hg (hr.mono (by decide)) m_check_number F_check_number.kp b_check_number_1 vb_check_number_1 (fun _ => .cons (.int 0) (.cons .non (.nil))) (d_cons (d_var 0) d_nil)))
    (s_one (s_ret (d_call G_member_at hg (hr.mono (by decide)) m_member_at F_member_at.kp b_member_at .nil (fun _ => .nil) (d_cons (d_var 0) d_nil)))))⟩
/-! in_base -/
def b_in_base : S → M Out := (sSeq (sExpr (dCallU 3 f_check_number [.int 0, .non] (aCons (dVar 0) aNil)))
    (sRet (dCallU 1 f_are_plain [] (aCons (dCallU 2 f_digits_in [] (aCons (dVar 0) (aCons (dC (.int 3)) aNil))) aNil))))
def f_in_base : FnD := runP 1 b_in_base
theorem sc_in_base : FnScope ["x"] ["x"] (defScope (top 13)) := ⟨rfl, rfl, rfl, by decide +kernel, rfl, by decide +kernel, by decide +kernel⟩
abbrev D_in_base (K : PySem.W.Frag) (fd : FuncData) : Prop := FunD K "in_base" "in_base" (defArgs (top 13)) (defBody (top 13)) (defScope (top 13)) [] [] (He.ga K "in_base") fd
theorem ok_in_base {P : Program} {w : World} {K : PySem.W.Frag} {mg : Str → Option Value} {base : Heap} (Z : Ctx K mg) {fd : FuncData} (F : D_in_base K fd) : FnG P w K mg base (L2.CX P w) 3 (He.ga K "in_base") fd ["x"] (spP K (cl0 K) 1 f_in_base) := by
  obtain ⟨fd_check_number, F_check_number⟩ : ∃ fd, D_check_number K fd := Z.says.def_ 1 (d := (dd (.fn "check_number") "check_number" "check_number" (top 5) [.int 0, .non] [])) rfl
  have G_check_number : FnG P w K mg base (L2.CX P w) 2 _ fd_check_number ["value", "low", "high"] _ := ok_check_number Z F_check_number
  have m_check_number : mg "check_number" = some (.ref (He.ga K "check_number")) := Z.glo "check_number" (by decide)
  obtain ⟨fd_are_plain, F_are_plain⟩ : ∃ fd, D_are_plain K fd := Z.says.def_ 4 (d := (dd (.fn "are_plain") "are_plain" "are_plain" (top 8) [] [])) rfl
  have G_are_plain : FnG P w K mg base (L2.CX P w) 1 _ fd_are_plain ["digits"] _ := ok_are_plain Z F_are_plain
  have m_are_plain : mg "are_plain" = some (.ref (He.ga K "are_plain")) := Z.glo "are_plain" (by decide)
  obtain ⟨fd_digits_in, F_digits_in⟩ : ∃ fd, D_digits_in K fd := Z.says.def_ 2 (d := (dd (.fn "digits_in") "digits_in" "digits_in" (top 6) [] [])) rfl
  have G_digits_in : FnG P w K mg base (L2.CX P w) 1 _ fd_digits_in ["number", "radix"] _ := ok_digits_in Z F_digits_in
  have m_digits_in : mg "digits_in" = some (.ref (He.ga K "digits_in")) := Z.glo "digits_in" (by decide)
  obtain ⟨db_check_number_1, vb_check_number_1, b_check_number_1⟩ : ∃ ds, Vals [(V.int 0), V.non] ds ∧ Binds K fd_check_number ["value", "low", "high"] ds := F_check_number.binds1 1 0 (by decide) rfl fun _ _ _ _ _ _ _ us ks h1 h2 => match us, ks, h1, h2 with | [_], [_, _], _, _ => ⟨_, rfl, rfl⟩
  have b_are_plain : Binds K fd_are_plain ["digits"] [] := F_are_plain.bindsN fun _ _ _ _ _ _ us hl => match us, hl with | [_], _ => rfl
  have b_digits_in : Binds K fd_digits_in ["number", "radix"] [] := F_digits_in.bindsN fun _ _ _ _ _ _ us hl => match us, hl with | [_, _], _ => rfl
  have sc := sc_in_base
  refine okP F sc rfl rfl (F := b_in_base) fun cdv A outer s H E hg hr tk hp => ?_
  exact ⟨_, (s_cons (s_expr (d_call G_check_number hg (hr.mono (by decide)) m_check_number F_check_number.kp b_check_number_1 vb_check_number_1 (fun _ => .cons (.int 0) (.cons .non (.nil))) (d_cons (d_var 0) d_nil)))
    (s_one (s_ret (d_call G_are_plain hg (hr.mono (by decide)) m_are_plain F_are_plain.kp b_are_plain .nil (fun _ => .nil) (d_cons (d_call G_digits_in hg (hr.mono (by decide)) m_digits_in F_digits_in.kp b_digits_in .nil (fun _ => .nil) (d_cons (d_var 0) (d_cons d_int d_nil))) d_nil)))))⟩
/-! base_rank -/
def b_base_rank : S → M Out := (sSeq (sExpr (dCallU 3 f_check_number [.int 0, .non] (aCons (dVar 0) aNil)))
    (sRet (dCallU 1 f_rank_of [] (aCons (dVar 0) aNil))))
def f_base_rank : FnD := runP 1 b_base_rank
theorem sc_base_rank : FnScope ["x"] ["x"] (defScope (top 14)) := ⟨rfl, rfl, rfl, by decide +kernel, rfl, by decide +kernel, by decide +kernel⟩
abbrev D_base_rank (K : PySem.W.Frag) (fd : FuncData) : Prop := FunD K "base_rank" "base_rank" (defArgs (top 14)) (defBody (top 14)) (defScope (top 14)) [] [] (He.ga K "base_rank") fd
theorem ok_base_rank {P : Program} {w : World} {K : PySem.W.Frag} {mg : Str → Option Value} {base : Heap} (Z : Ctx K mg) {fd : FuncData} (F : D_base_rank K fd) : FnG P w K mg base (L2.CX P w) 3 (He.ga K "base_rank") fd ["x"] (spP K (cl0 K) 1 f_base_rank) := by
  obtain ⟨fd_check_number, F_check_number⟩ : ∃ fd, D_check_number K fd := Z.says.def_ 1 (d := (dd (.fn "check_number") "check_number" "check_number" (top 5) [.int 0, .non] [])) rfl
  have G_check_number : FnG P w K mg base (L2.CX P w) 2 _ fd_check_number ["value", "low", "high"] _ := ok_check_number Z F_check_number
  have m_check_number : mg "check_number" = some (.ref (He.ga K "check_number")) := Z.glo "check_number" (by decide)
  obtain ⟨fd_rank_of, F_rank_of⟩ : ∃ fd, D_rank_of K fd := Z.says.def_ 7 (d := (dd (.fn "rank_of") "rank_of" "rank_of" (top 11) [] [])) rfl
  have G_rank_of : FnG P w K mg base (L2.CX P w) 2 _ fd_rank_of ["x"] _ := ok_rank_of Z F_rank_of
  have m_rank_of : mg "rank_of" = some (.ref (He.ga K "rank_of")) := Z.glo "rank_of" (by decide)
  obtain ⟨db_check_number_1, vb_check_number_1, b_check_number_1⟩ : ∃ ds, Vals [(V.int 0), V.non] ds ∧ Binds K fd_check_number ["value", "low", "high"] ds := F_check_number.binds1 1 0 (by decide) rfl fun _ _ _ _ _ _ _ us ks h1 h2 => match us, ks, h1, h2 with | [_], [_, _], _, _ => ⟨_, rfl, rfl⟩
  have b_rank_of : Binds K fd_rank_of ["x"] [] := F_rank_of.bindsN fun _ _ _ _ _ _ us hl => match us, hl with | [_], _ => rfl
  have sc := sc_base_rank
  refine okP F sc rfl rfl (F := b_base_rank) fun cdv A outer s H E hg hr tk hp => ?_
  exact ⟨_, (s_cons (s_expr (d_call G_check_number hg (hr.mono (by decide)) m_check_number F_check_number.kp b_check_number_1 vb_check_number_1 (fun _ => .cons (.int 0) (.cons .non (.nil))) (d_cons (d_var 0) d_nil)))
    (s_one (s_ret (d_call G_rank_of hg (hr.mono (by decide)) m_rank_of F_rank_of.kp b_rank_of .nil (fun _ => .nil) (d_cons (d_var 0) d_nil)))))⟩
/-! next_base -/
def b_next_base : S → M Out := (sSeq (sExpr (dCallU 3 f_check_number [.int 0, .non] (aCons (dVar 0) aNil)))
    (sRet (dCallU 1 f_member_at [] (aCons (dCallU 1 f_rank_of [] (aCons (dBin addI (dVar 0) (dC (.int 1))) aNil)) aNil))))
def f_next_base : FnD := runP 1 b_next_base
theorem sc_next_base : FnScope ["x"] ["x"] (defScope (top 15)) := ⟨rfl, rfl, rfl, by decide +kernel, rfl, by decide +kernel, by decide +kernel⟩
abbrev D_next_base (K : PySem.W.Frag) (fd : FuncData) : Prop := FunD K "next_base" "next_base" (defArgs (top 15)) (defBody (top 15)) (defScope (top 15)) [] [] (He.ga K "next_base") fd
theorem ok_next_base {P : Program} {w : World} {K : PySem.W.Frag} {mg : Str → Option Value} {base : Heap} (Z : Ctx K mg) {fd : FuncData} (F : D_next_base K fd) : FnG P w K mg base (L2.CX P w) 3 (He.ga K "next_base") fd ["x"] (spP K (cl0 K) 1 f_next_base) := by
  obtain ⟨fd_check_number, F_check_number⟩ : ∃ fd, D_check_number K fd := Z.says.def_ 1 (d := (dd (.fn "check_number") "check_number" "check_number" (top 5) [.int 0, .non] [])) rfl
  have G_check_number : FnG P w K mg base (L2.CX P w) 2 _ fd_check_number ["value", "low", "high"] _ := ok_check_number Z F_check_number
  have m_check_number : mg "check_number" = some (.ref (He.ga K "check_number")) := Z.glo "check_number" (by decide)
  obtain ⟨fd_member_at, F_member_at⟩ : ∃ fd, D_member_at K fd := Z.says.def_ 6 (d := (dd (.fn "member_at") "member_at" "member_at" (top 10) [] [])) rfl
  have G_member_at : FnG P w K mg base (L2.CX P w) 2 _ fd_member_at ["number"] _ := ok_member_at Z F_member_at
  have m_member_at : mg "member_at" = some (.ref (He.ga K "member_at")) := Z.glo "member_at" (by decide)
  obtain ⟨fd_rank_of, F_rank_of⟩ : ∃ fd, D_rank_of K fd := Z.says.def_ 7 (d := (dd (.fn "rank_of") "rank_of" "rank_of" (top 11) [] [])) rfl
  have G_rank_of : FnG P w K mg base (L2.CX P w) 2 _ fd_rank_of ["x"] _ := ok_rank_of Z F_rank_of
  have m_rank_of : mg "rank_of" = some (.ref (He.ga K "rank_of")) := Z.glo "rank_of" (by decide)
  obtain ⟨db_check_number_1, vb_check_number_1, b_check_number_1⟩ : ∃ ds, Vals [(V.int 0), V.non] ds ∧ Binds K fd_check_number ["value", "low", "high"] ds := F_check_number.binds1 1 0 (by decide) rfl fun _ _ _ _ _ _ _ us ks h1 h2 => match us, ks, h1, h2 with | [_], [_, _], _, _ => ⟨_, rfl, rfl⟩
  have b_member_at : Binds K fd_member_at ["number"] [] := F_member_at.bindsN fun _ _ _ _ _ _ us hl => match us, hl with | [_], _ => rfl
  have b_rank_of : Binds K fd_rank_of ["x"] [] := F_rank_of.bindsN fun _ _ _ _ _ _ us hl => match us, hl with | [_], _ => rfl
  have sc := sc_next_base
  refine okP F sc rfl rfl (F := b_next_base) fun cdv A outer s H E hg hr tk hp => ?_
  exact ⟨_, (s_cons (s_expr (d_call G_check_number hg (hr.mono (by decide)) m_check_number F_check_number.kp b_check_number_1 vb_check_number_1 (fun _ => .cons (.int 0) (.cons .non (.nil))) (d_cons (d_var 0) d_nil)))
    (s_one (s_ret (d_call G_member_at hg (hr.mono (by decide)) m_member_at F_member_at.kp b_member_at .nil (fun _ => .nil) (d_cons (d_call G_rank_of hg (hr.mono (by decide)) m_rank_of F_rank_of.kp b_rank_of .nil (fun _ => .nil) (d_cons (d_op k_add (d_var 0) d_int) d_nil)) d_nil)))))⟩
/-! last_base -/
def b_last_base : S → M Out := (sSeq (sExpr (dCallU 3 f_check_number [.int 0, .non] (aCons (dVar 0) aNil)))
    (sRet (dCallU 1 f_member_at [] (aCons (dBin subI (dCallU 1 f_rank_of [] (aCons (dBin addI (dVar 0) (dC (.int 1))) aNil)) (dC (.int 1))) aNil))))
def f_last_base : FnD := runP 1 b_last_base
theorem sc_last_base : FnScope ["x"] ["x"] (defScope (top 16)) := ⟨rfl, rfl, rfl, by decide +kernel, rfl, by decide +kernel, by decide +kernel⟩
abbrev D_last_base (K : PySem.W.Frag) (fd : FuncData) : Prop := FunD K "last_base" "last_base" (defArgs (top 16)) (defBody (top 16)) (defScope (top 16)) [] [] (He.ga K "last_base") fd
theorem ok_last_base {P : Program} {w : World} {K : PySem.W.Frag} {mg : Str → Option Value} {base : Heap} (Z : Ctx K mg) {fd : FuncData} (F : D_last_base K fd) : FnG P w K mg base (L2.CX P w) 3 (He.ga K "last_base") fd ["x"] (spP K (cl0 K) 1 f_last_base) := by
  obtain ⟨fd_check_number, F_check_number⟩ : ∃ fd, D_check_number K fd := Z.says.def_ 1 (d := (dd (.fn "check_number") "check_number" "check_number" (top 5) [.int 0, .non] [])) rfl
  have G_check_number : FnG P w K mg base (L2.CX P w) 2 _ fd_check_number ["value", "low", "high"] _ := ok_check_number Z F_check_number
  have m_check_number : mg "check_number" = some (.ref (He.ga K "check_number")) := Z.glo "check_number" (by decide)
  obtain ⟨fd_member_at, F_member_at⟩ : ∃ fd, D_member_at K fd := Z.says.def_ 6 (d := (dd (.fn "member_at") "member_at" "member_at" (top 10) [] [])) rfl
  have G_member_at : FnG P w K mg base (L2.CX P w) 2 _ fd_member_at ["number"] _ := ok_member_at Z F_member_at
  have m_member_at : mg "member_at" = some (.ref (He.ga K "member_at")) := Z.glo "member_at" (by decide)
  obtain ⟨fd_rank_of, F_rank_of⟩ : ∃ fd, D_rank_of K fd := Z.says.def_ 7 (d := (dd (.fn "rank_of") "rank_of" "rank_of" (top 11) [] [])) rfl
  have G_rank_of : FnG P w K mg base (L2.CX P w) 2 _ fd_rank_of ["x"] _ := ok_rank_of Z F_rank_of
  have m_rank_of : mg "rank_of" = some (.ref (He.ga K "rank_of")) := Z.glo "rank_of" (by decide)
  obtain ⟨db_check_number_1, vb_check_number_1, b_check_number_1⟩ : ∃ ds, Vals [(V.int 0), V.non] ds ∧ Binds K fd_check_number ["value", "low", "high"] ds := F_check_number.binds1 1 0 (by decide) rfl fun _ _ _ _ _ _ _ us ks h1 h2 => match us, ks, h1, h2 with | [_], [_, _], _, _ => ⟨_, rfl, rfl⟩
  have b_member_at : Binds K fd_member_at ["number"] [] := F_member_at.bindsN fun _ _ _ _ _ _ us hl => match us, hl with | [_], _ => rfl
  have b_rank_of : Binds K fd_rank_of ["x"] [] := F_rank_of.bindsN fun _ _ _ _ _ _ us hl => match us, hl with | [_], _ => rfl
  have sc := sc_last_base
  refine okP F sc rfl rfl (F := b_last_base) fun cdv A outer s H E hg hr tk hp => ?_
  exact ⟨_, (s_cons (s_expr (d_call G_check_number hg (hr.mono (by decide)) m_check_number F_check_number.kp b_check_number_1 vb_check_number_1 (fun _ => .cons (.int 0) (.cons .non (.nil))) (d_cons (d_var 0) d_nil)))
    (s_one (s_ret (d_call G_member_at hg (hr.mono (by decide)) m_member_at F_member_at.kp b_member_at .nil (fun _ => .nil) (d_cons (d_op k_sub (d_call G_rank_of hg (hr.mono (by decide)) m_rank_of F_rank_of.kp b_rank_of .nil (fun _ => .nil) (d_cons (d_op k_add (d_var 0) d_int) d_nil)) d_int) d_nil)))))⟩
/-! base_members -/
def gb_base_members : GM := (gSq (gPl (sExpr (dCallU 3 f_check_number [.int 0, .non] (aCons (dVar 0) aNil))))
    (gSq (gPl (sSet 1 (dVar 0)))
    (gWhile (dTst (dC (.bl true)))
    (gSq (gYl (dCallU 1 f_member_at [] (aCons (dVar 1) aNil)))
    (gPl (sAugI 1 (dC (.int 1)) addI))))))
theorem sc_base_members : GScope ["start", "number"] ["start"] (defScope (top 17)) := ⟨rfl, rfl, rfl, by decide +kernel, rfl, by decide +kernel, by decide +kernel⟩
abbrev D_base_members (K : PySem.W.Frag) (fd : FuncData) : Prop := FunD K "base_members" "base_members" (defArgs (top 17)) (defBody (top 17)) (defScope (top 17)) [(V.int 0)] [] (He.ga K "base_members") fd
theorem ok_base_members {P : Program} {w : World} {K : PySem.W.Frag} {mg : Str → Option Value} {base : Heap} (Z : Ctx K mg) {fd : FuncData} (F : D_base_members K fd) : ∃ g, FnY P w K mg base 3 (He.ga K "base_members") fd ["start"] g ∧ g.N = (["start", "number"] : List Str) ∧ GBody P w K mg base (cl0 K) 2 g gb_base_members := by
  obtain ⟨fd_check_number, F_check_number⟩ : ∃ fd, D_check_number K fd := Z.says.def_ 1 (d := (dd (.fn "check_number") "check_number" "check_number" (top 5) [.int 0, .non] [])) rfl
  have G_check_number : FnG P w K mg base (L2.CX P w) 2 _ fd_check_number ["value", "low", "high"] _ := ok_check_number Z F_check_number
  have m_check_number : mg "check_number" = some (.ref (He.ga K "check_number")) := Z.glo "check_number" (by decide)
  obtain ⟨fd_member_at, F_member_at⟩ : ∃ fd, D_member_at K fd := Z.says.def_ 6 (d := (dd (.fn "member_at") "member_at" "member_at" (top 10) [] [])) rfl
  have G_member_at : FnG P w K mg base (L2.CX P w) 2 _ fd_member_at ["number"] _ := ok_member_at Z F_member_at
  have m_member_at : mg "member_at" = some (.ref (He.ga K "member_at")) := Z.glo "member_at" (by decide)
  obtain ⟨db_check_number_1, vb_check_number_1, b_check_number_1⟩ : ∃ ds, Vals [(V.int 0), V.non] ds ∧ Binds K fd_check_number ["value", "low", "high"] ds := F_check_number.binds1 1 0 (by decide) rfl fun _ _ _ _ _ _ _ us ks h1 h2 => match us, ks, h1, h2 with | [_], [_, _], _, _ => ⟨_, rfl, rfl⟩
  have b_member_at : Binds K fd_member_at ["number"] [] := F_member_at.bindsN fun _ _ _ _ _ _ us hl => match us, hl with | [_], _ => rfl
  have sc := sc_base_members
  refine okY F sc (by decide +kernel) (by decide) fun cd A outer n0 hg hr hk => ?_
  exact (gss_cons (gs_pl (fun s H fp => (s_expr (d_call G_check_number hg (hr.mono (by decide)) m_check_number F_check_number.kp b_check_number_1 vb_check_number_1 (fun _ => .cons (.int 0) (.cons .non (.nil))) (d_cons (d_var 0) d_nil)))))
    (gss_cons (gs_pl (fun s H fp => (s_set 1 sc.nd (d_var 0))))
    (gss_one (gs_while (fun s H fp => (d_tst d_bl))
    (gss_cons (gs_yl hk (fun s H fp => (d_call G_member_at hg (hr.mono (by decide)) m_member_at F_member_at.kp b_member_at .nil (fun _ => .nil) (d_cons (d_var 1) d_nil))) rfl rfl)
    (gss_one (gs_pl (fun s H fp => (s_aug 1 sc.nd i_add d_int)))))))))
/-! _law_number -/
def b__law_number : S → M Out := (sSeq (sSet 1 (dCallI 0 2 f__law_draw (aCons (dC (.int 4)) aNil)))
    (sSeq (sIf (dTst (dBin eqD (dVar 1) (dC (.int 0))))
    (sRet (dCallI 0 2 f__law_draw (aCons (dC (.int 100)) aNil)))
    sNil)
    (sSeq (sIf (dTst (dBin eqD (dVar 1) (dC (.int 1))))
    (sRet (dBin addI (dBin mulI (dCallI 0 2 f__law_draw (aCons (dBin powI (dC (.int 10)) (dC (.int 30))) aNil)) (dBin powI (dC (.int 10)) (dC (.int 30)))) (dCallI 0 2 f__law_draw (aCons (dBin powI (dC (.int 10)) (dC (.int 30))) aNil))))
    sNil)
    (sSeq (sSet 2 (dC (.int 1)))
    (sSeq (sFor (iR1 (aCons (dCallI 0 2 f__law_draw (aCons (dC (.int 120)) aNil)) aNil)) (gNm 3)
    (sSet 2 (dBin addI (dBin mulI (dC (.int 3)) (dVar 2)) (dIf (dTst (dBin eqD (dVar 1) (dC (.int 3)))) (dCallI 0 2 f__law_draw (aCons (dC (.int 2)) aNil)) (dC (.int 0))))))
    (sRet (dCall max2N (aCons (dC (.int 0)) (aCons (dBin subI (dBin addI (dVar 2) (dCallI 0 2 f__law_draw (aCons (dC (.int 3)) aNil))) (dC (.int 1))) aNil)))))))))
def f__law_number : D → List D → M (D × D) := runI 4 b__law_number
theorem sc__law_number : FnScope ["_law_stream_here", "_law_way", "_law_found", "_law_turn"] ["_law_stream_here"] (defScope (top 22)) := ⟨rfl, rfl, rfl, by decide +kernel, rfl, by decide +kernel, by decide +kernel⟩
abbrev D__law_number (K : PySem.W.Frag) (fd : FuncData) : Prop := FunD K "_law_number" "_law_number" (defArgs (top 22)) (defBody (top 22)) (defScope (top 22)) [] [] (He.ga K "_law_number") fd
theorem ok__law_number {P : Program} {w : World} {K : PySem.W.Frag} {mg : Str → Option Value} {base : Heap} (Z : Ctx K mg) {fd : FuncData} (F : D__law_number K fd) : FnG P w K mg base (L2.CX P w) 3 (He.ga K "_law_number") fd ["_law_stream_here"] (spI K (cl0 K) 1 f__law_number) := by
  have fr_range : mg "range" = none := Z.fre "range" (by decide)
  have fr_max : mg "max" = none := Z.fre "max" (by decide)
  obtain ⟨fd__law_draw, F__law_draw⟩ : ∃ fd, D__law_draw K fd := Z.says.def_ 16 (d := (dd (.fn "_law_draw") "_law_draw" "_law_draw" (top 21) [] [])) rfl
  have G__law_draw : FnG P w K mg base (L2.CX P w) 2 _ fd__law_draw ["_law_stream_here", "_law_top"] _ := ok__law_draw Z F__law_draw
  have m__law_draw : mg "_law_draw" = some (.ref (He.ga K "_law_draw")) := Z.glo "_law_draw" (by decide)
  have b__law_draw : Binds K fd__law_draw ["_law_stream_here", "_law_top"] [] := F__law_draw.bindsN fun _ _ _ _ _ _ us hl => match us, hl with | [_, _], _ => rfl
  have sc := sc__law_number
  refine okI F sc rfl rfl (by decide) (F := b__law_number) fun cdv A outer s H E hg hr tk hp => ?_
  exact ⟨_, (s_cons (s_set 1 sc.nd (d_callI 0 G__law_draw hg (hr.mono (by decide)) m__law_draw F__law_draw.kp b__law_draw (d_cons d_int d_nil)))
    (s_cons (s_if (d_tcmp (k_eqD (u64 hr)) (d_var 1) d_int)
    (s_one (s_ret (d_callI 0 G__law_draw hg (hr.mono (by decide)) m__law_draw F__law_draw.kp b__law_draw (d_cons d_int d_nil))))
    s_nil)
    (s_cons (s_if (d_tcmp (k_eqD (u64 hr)) (d_var 1) d_int)
    (s_one (s_ret (d_op k_add (d_op k_mul (d_callI 0 G__law_draw hg (hr.mono (by decide)) m__law_draw F__law_draw.kp b__law_draw (d_cons (d_op k_pow d_int d_int) d_nil)) (d_op k_pow d_int d_int)) (d_callI 0 G__law_draw hg (hr.mono (by decide)) m__law_draw F__law_draw.kp b__law_draw (d_cons (d_op k_pow d_int d_int) d_nil)))))
    s_nil)
    (s_cons (s_set 2 sc.nd d_int)
    (s_cons (s_for hp (w_range1 fr_range (d_cons (d_callI 0 G__law_draw hg (hr.mono (by decide)) m__law_draw F__law_draw.kp b__law_draw (d_cons d_int d_nil)) d_nil)) (g_name 3 sc.nd)
    (s_one (s_set 2 sc.nd (d_op k_add (d_op k_mul d_int (d_var 2)) (d_ifx (d_tcmp (k_eqD (u64 hr)) (d_var 1) d_int) (d_callI 0 G__law_draw hg (hr.mono (by decide)) m__law_draw F__law_draw.kp b__law_draw (d_cons d_int d_nil)) d_int)))))
    (s_one (s_ret (d_callB (c_max2 rfl) fr_max rfl (d_cons d_int (d_cons (d_op k_sub (d_op k_add (d_var 2) (d_callI 0 G__law_draw hg (hr.mono (by decide)) m__law_draw F__law_draw.kp b__law_draw (d_cons d_int d_nil))) d_int) d_nil))))))))))⟩
/-! _law_below -/
def b__law_below : S → M Out := (sSeq (sAsg (dTup (aCons (dC (.int 0)) (aCons (dC (.int 1)) aNil))) (gTp (gsCons (gNm 1) (gsCons (gNm 2) gsNil))))
    (sSeq (sWhile (dTst (dBin ltI (dCallU 1 f__law_member [] (aCons (dVar 2) aNil)) (dVar 0)))
    (sSet 2 (dBin mulI (dC (.int 2)) (dVar 2))))
    (sSeq (sWhile (dTst (dBin ltI (dVar 1) (dVar 2)))
    (sSeq (sSet 3 (dBin divI (dBin addI (dVar 1) (dVar 2)) (dC (.int 2))))
    (sIf (dTst (dBin ltI (dCallU 1 f__law_member [] (aCons (dVar 3) aNil)) (dVar 0)))
    (sSet 1 (dBin addI (dVar 3) (dC (.int 1))))
    (sSet 2 (dVar 3)))))
    (sRet (dVar 1)))))
def f__law_below : FnD := runP 4 b__law_below
theorem sc__law_below : FnScope ["_law_given", "_law_low", "_law_high", "_law_middle"] ["_law_given"] (defScope (top 26)) := ⟨rfl, rfl, rfl, by decide +kernel, rfl, by decide +kernel, by decide +kernel⟩
abbrev D__law_below (K : PySem.W.Frag) (fd : FuncData) : Prop := FunD K "_law_below" "_law_below" (defArgs (top 26)) (defBody (top 26)) (defScope (top 26)) [] [] (He.ga K "_law_below") fd
theorem ok__law_below {P : Program} {w : World} {K : PySem.W.Frag} {mg : Str → Option Value} {base : Heap} (Z : Ctx K mg) {fd : FuncData} (F : D__law_below K fd) : FnG P w K mg base (L2.CX P w) 3 (He.ga K "_law_below") fd ["_law_given"] (spP K (cl0 K) 1 f__law_below) := by
  obtain ⟨fd__law_member, F__law_member⟩ : ∃ fd, D__law_member K fd := Z.says.def_ 20 (d := (dd (.fn "_law_member") "_law_member" "_law_member" (top 25) [] [])) rfl
  have G__law_member : FnG P w K mg base (L2.CX P w) 2 _ fd__law_member ["_law_order"] _ := ok__law_member Z F__law_member
  have m__law_member : mg "_law_member" = some (.ref (He.ga K "_law_member")) := Z.glo "_law_member" (by decide)
  have b__law_member : Binds K fd__law_member ["_law_order"] [] := F__law_member.bindsN fun _ _ _ _ _ _ us hl => match us, hl with | [_], _ => rfl
  have sc := sc__law_below
  refine okP F sc rfl rfl (F := b__law_below) fun cdv A outer s H E hg hr tk hp => ?_
  exact ⟨_, (s_cons (s_asg (d_tup (d_cons d_int (d_cons d_int d_nil))) (g_tup rfl (gs_cons (g_name 1 sc.nd) (gs_cons (g_name 2 sc.nd) gs_nil)) 2 (gsl_cons (gsl_cons gsl_nil))))
    (s_cons (s_while hp (d_tcmp k_lt (d_call G__law_member hg (hr.mono (by decide)) m__law_member F__law_member.kp b__law_member .nil (fun _ => .nil) (d_cons (d_var 2) d_nil)) (d_var 0))
    (s_one (s_set 2 sc.nd (d_op k_mul d_int (d_var 2)))))
    (s_cons (s_while hp (d_tcmp k_lt (d_var 1) (d_var 2))
    (s_cons (s_set 3 sc.nd (d_op k_div (d_op k_add (d_var 1) (d_var 2)) d_int))
    (s_one (s_if (d_tcmp k_lt (d_call G__law_member hg (hr.mono (by decide)) m__law_member F__law_member.kp b__law_member .nil (fun _ => .nil) (d_cons (d_var 3) d_nil)) (d_var 0))
    (s_one (s_set 1 sc.nd (d_op k_add (d_var 3) d_int)))
    (s_one (s_set 2 sc.nd (d_var 3)))))))
    (s_one (s_ret (d_var 1))))))⟩
/-! _law_rank_right -/
def b__law_rank_right : S → M Out := (sSeq (sSet 1 (dCallU 1 f__law_below [] (aCons (dVar 0) aNil)))
    (sSeq (sIf (dTst (dBin neS (dCall reprN (aCons (dLst (aCons (dCallU 1 f_base_rank [] (aCons (dVar 0) aNil)) (aCons (dCallK 1 0 1 f_base_rank (fun as bs => as ++ bs) aNil (aCons (dVar 0) aNil)) aNil))) aNil)) (dCall reprN (aCons (dLst (aCons (dVar 1) (aCons (dVar 1) aNil))) aNil))))
    (sRet (dC (.bl false)))
    sNil)
    (sSeq (sSet 2 (dBin eqD (dCallU 1 f__law_member [] (aCons (dVar 1) aNil)) (dVar 0)))
    (sSeq (sIf (dTst (dBin neS (dCall reprN (aCons (dLst (aCons (dCallU 1 f_in_base [] (aCons (dVar 0) aNil)) (aCons (dCallK 1 0 1 f_in_base (fun as bs => as ++ bs) aNil (aCons (dVar 0) aNil)) aNil))) aNil)) (dCall reprN (aCons (dLst (aCons (dVar 2) (aCons (dVar 2) aNil))) aNil))))
    (sRet (dC (.bl false)))
    sNil)
    (sSeq (sSet 3 (dCallU 1 f__law_member [] (aCons (dBin addI (dVar 1) (dCall intN (aCons (dVar 2) aNil))) aNil)))
    (sSeq (sSet 4 (dIf (dTst (dVar 2)) (dVar 0) (dCallU 1 f__law_member [] (aCons (dBin subI (dVar 1) (dC (.int 1))) aNil))))
    (sSeq (sIf (dTst (dBin neS (dCall reprN (aCons (dLst (aCons (dCallU 1 f_next_base [] (aCons (dVar 0) aNil)) (aCons (dCallK 1 0 1 f_next_base (fun as bs => as ++ bs) aNil (aCons (dVar 0) aNil)) aNil))) aNil)) (dCall reprN (aCons (dLst (aCons (dVar 3) (aCons (dVar 3) aNil))) aNil))))
    (sRet (dC (.bl false)))
    sNil)
    (sRet (dBin eqS (dCall reprN (aCons (dLst (aCons (dCallU 1 f_last_base [] (aCons (dVar 0) aNil)) (aCons (dCallK 1 0 1 f_last_base (fun as bs => as ++ bs) aNil (aCons (dVar 0) aNil)) aNil))) aNil)) (dCall reprN (aCons (dLst (aCons (dVar 4) (aCons (dVar 4) aNil))) aNil)))))))))))
def f__law_rank_right : FnD := runP 5 b__law_rank_right
theorem sc__law_rank_right : FnScope ["_law_given", "_law_due", "_law_is_plain", "_law_later", "_law_earlier"] ["_law_given"] (defScope (top 27)) := ⟨rfl, rfl, rfl, by decide +kernel, rfl, by decide +kernel, by decide +kernel⟩
abbrev D__law_rank_right (K : PySem.W.Frag) (fd : FuncData) : Prop := FunD K "_law_rank_right" "_law_rank_right" (defArgs (top 27)) (defBody (top 27)) (defScope (top 27)) [] [] (He.ga K "_law_rank_right") fd
theorem ok__law_rank_right {P : Program} {w : World} {K : PySem.W.Frag} {mg : Str → Option Value} {base : Heap} (Z : Ctx K mg) {fd : FuncData} (F : D__law_rank_right K fd) : FnG P w K mg base (L2.CX P w) 4 (He.ga K "_law_rank_right") fd ["_law_given"] (spP K (cl0 K) 1 f__law_rank_right) := by
  have fr_repr : mg "repr" = none := Z.fre "repr" (by decide)
  have fr_int : mg "int" = none := Z.fre "int" (by decide)
  obtain ⟨fd__law_below, F__law_below⟩ : ∃ fd, D__law_below K fd := Z.says.def_ 21 (d := (dd (.fn "_law_below") "_law_below" "_law_below" (top 26) [] [])) rfl
  have G__law_below : FnG P w K mg base (L2.CX P w) 3 _ fd__law_below ["_law_given"] _ := ok__law_below Z F__law_below
  have m__law_below : mg "_law_below" = some (.ref (He.ga K "_law_below")) := Z.glo "_law_below" (by decide)
  obtain ⟨fd_base_rank, F_base_rank⟩ : ∃ fd, D_base_rank K fd := Z.says.def_ 10 (d := (dd (.fn "base_rank") "base_rank" "base_rank" (top 14) [] [])) rfl
  have G_base_rank : FnG P w K mg base (L2.CX P w) 3 _ fd_base_rank ["x"] _ := ok_base_rank Z F_base_rank
  have m_base_rank : mg "base_rank" = some (.ref (He.ga K "base_rank")) := Z.glo "base_rank" (by decide)
  obtain ⟨fd__law_member, F__law_member⟩ : ∃ fd, D__law_member K fd := Z.says.def_ 20 (d := (dd (.fn "_law_member") "_law_member" "_law_member" (top 25) [] [])) rfl
  have G__law_member : FnG P w K mg base (L2.CX P w) 2 _ fd__law_member ["_law_order"] _ := ok__law_member Z F__law_member
  have m__law_member : mg "_law_member" = some (.ref (He.ga K "_law_member")) := Z.glo "_law_member" (by decide)
  obtain ⟨fd_in_base, F_in_base⟩ : ∃ fd, D_in_base K fd := Z.says.def_ 9 (d := (dd (.fn "in_base") "in_base" "in_base" (top 13) [] [])) rfl
  have G_in_base : FnG P w K mg base (L2.CX P w) 3 _ fd_in_base ["x"] _ := ok_in_base Z F_in_base
  have m_in_base : mg "in_base" = some (.ref (He.ga K "in_base")) := Z.glo "in_base" (by decide)
  obtain ⟨fd_next_base, F_next_base⟩ : ∃ fd, D_next_base K fd := Z.says.def_ 11 (d := (dd (.fn "next_base") "next_base" "next_base" (top 15) [] [])) rfl
  have G_next_base : FnG P w K mg base (L2.CX P w) 3 _ fd_next_base ["x"] _ := ok_next_base Z F_next_base
  have m_next_base : mg "next_base" = some (.ref (He.ga K "next_base")) := Z.glo "next_base" (by decide)
  obtain ⟨fd_last_base, F_last_base⟩ : ∃ fd, D_last_base K fd := Z.says.def_ 12 (d := (dd (.fn "last_base") "last_base" "last_base" (top 16) [] [])) rfl
  have G_last_base : FnG P w K mg base (L2.CX P w) 3 _ fd_last_base ["x"] _ := ok_last_base Z F_last_base
  have m_last_base : mg "last_base" = some (.ref (He.ga K "last_base")) := Z.glo "last_base" (by decide)
  have b__law_below : Binds K fd__law_below ["_law_given"] [] := F__law_below.bindsN fun _ _ _ _ _ _ us hl => match us, hl with | [_], _ => rfl
  have b_base_rank_0_x := kbN F_base_rank 0 ["x"] (ps := ["x"]) (fun as bs => as ++ bs) (fun a b => a.append b) fun _ _ _ _ _ _ us ws h1 h2 => match us, ws, h1, h2 with | [], [_], _, _ => rfl
  have b_base_rank : Binds K fd_base_rank ["x"] [] := F_base_rank.bindsN fun _ _ _ _ _ _ us hl => match us, hl with | [_], _ => rfl
  have b__law_member : Binds K fd__law_member ["_law_order"] [] := F__law_member.bindsN fun _ _ _ _ _ _ us hl => match us, hl with | [_], _ => rfl
  have b_in_base_0_x := kbN F_in_base 0 ["x"] (ps := ["x"]) (fun as bs => as ++ bs) (fun a b => a.append b) fun _ _ _ _ _ _ us ws h1 h2 => match us, ws, h1, h2 with | [], [_], _, _ => rfl
  have b_in_base : Binds K fd_in_base ["x"] [] := F_in_base.bindsN fun _ _ _ _ _ _ us hl => match us, hl with | [_], _ => rfl
  have b_next_base_0_x := kbN F_next_base 0 ["x"] (ps := ["x"]) (fun as bs => as ++ bs) (fun a b => a.append b) fun _ _ _ _ _ _ us ws h1 h2 => match us, ws, h1, h2 with | [], [_], _, _ => rfl
  have b_next_base : Binds K fd_next_base ["x"] [] := F_next_base.bindsN fun _ _ _ _ _ _ us hl => match us, hl with | [_], _ => rfl
  have b_last_base_0_x := kbN F_last_base 0 ["x"] (ps := ["x"]) (fun as bs => as ++ bs) (fun a b => a.append b) fun _ _ _ _ _ _ us ws h1 h2 => match us, ws, h1, h2 with | [], [_], _, _ => rfl
  have b_last_base : Binds K fd_last_base ["x"] [] := F_last_base.bindsN fun _ _ _ _ _ _ us hl => match us, hl with | [_], _ => rfl
  have sc := sc__law_rank_right
  refine okP F sc rfl rfl (F := b__law_rank_right) fun cdv A outer s H E hg hr tk hp => ?_
  exact ⟨_, (s_cons (s_set 1 sc.nd (d_call G__law_below hg (hr.mono (by decide)) m__law_below F__law_below.kp b__law_below .nil (fun _ => .nil) (d_cons (d_var 0) d_nil)))
    (s_cons (s_if (d_tcmp k_neS (d_callB (c_repr hg (u64 hr)) fr_repr rfl (d_cons (d_of (f_lst (d_cons (d_call G_base_rank hg (hr.mono (by decide)) m_base_rank F_base_rank.kp b_base_rank .nil (fun _ => .nil) (d_cons (d_var 0) d_nil)) (d_cons (d_callK0 (ks := ["x"]) (gD := (fun as bs => as ++ bs)) G_base_rank hg (hr.mono (by decide)) m_base_rank F_base_rank.kp b_base_rank_0_x (fun _ _ _ _ _ a b => a.append b) (k_cons (d_var 0) k_nil)) d_nil)))) d_nil)) (d_callB (c_repr hg (u64 hr)) fr_repr rfl (d_cons (d_of (f_lst (d_cons (d_var 1) (d_cons (d_var 1) d_nil)))) d_nil)))
    (s_one (s_ret d_bl))
    s_nil)
    (s_cons (s_set 2 sc.nd (d_cmp (k_eqD (u64 hr)) (d_call G__law_member hg (hr.mono (by decide)) m__law_member F__law_member.kp b__law_member .nil (fun _ => .nil) (d_cons (d_var 1) d_nil)) (d_var 0)))
    (s_cons (s_if (d_tcmp k_neS (d_callB (c_repr hg (u64 hr)) fr_repr rfl (d_cons (d_of (f_lst (d_cons (d_call G_in_base hg (hr.mono (by decide)) m_in_base F_in_base.kp b_in_base .nil (fun _ => .nil) (d_cons (d_var 0) d_nil)) (d_cons (d_callK0 (ks := ["x"]) (gD := (fun as bs => as ++ bs)) G_in_base hg (hr.mono (by decide)) m_in_base F_in_base.kp b_in_base_0_x (fun _ _ _ _ _ a b => a.append b) (k_cons (d_var 0) k_nil)) d_nil)))) d_nil)) (d_callB (c_repr hg (u64 hr)) fr_repr rfl (d_cons (d_of (f_lst (d_cons (d_var 2) (d_cons (d_var 2) d_nil)))) d_nil)))
    (s_one (s_ret d_bl))
    s_nil)
    (s_cons (s_set 3 sc.nd (d_call G__law_member hg (hr.mono (by decide)) m__law_member F__law_member.kp b__law_member .nil (fun _ => .nil) (d_cons (d_op k_add (d_var 1) (d_callT c_int fr_int rfl (d_cons (d_var 2) d_nil))) d_nil)))
    (s_cons (s_set 4 sc.nd (d_ifx (d_tst (d_var 2)) (d_var 0) (d_call G__law_member hg (hr.mono (by decide)) m__law_member F__law_member.kp b__law_member .nil (fun _ => .nil) (d_cons (d_op k_sub (d_var 1) d_int) d_nil))))
    (s_cons (s_if (d_tcmp k_neS (d_callB (c_repr hg (u64 hr)) fr_repr rfl (d_cons (d_of (f_lst (d_cons (d_call G_next_base hg (hr.mono (by decide)) m_next_base F_next_base.kp b_next_base .nil (fun _ => .nil) (d_cons (d_var 0) d_nil)) (d_cons (d_callK0 (ks := ["x"]) (gD := (fun as bs => as ++ bs)) G_next_base hg (hr.mono (by decide)) m_next_base F_next_base.kp b_next_base_0_x (fun _ _ _ _ _ a b => a.append b) (k_cons (d_var 0) k_nil)) d_nil)))) d_nil)) (d_callB (c_repr hg (u64 hr)) fr_repr rfl (d_cons (d_of (f_lst (d_cons (d_var 3) (d_cons (d_var 3) d_nil)))) d_nil)))
    (s_one (s_ret d_bl))
    s_nil)
    (s_one (s_ret (d_cmp k_eqS (d_callB (c_repr hg (u64 hr)) fr_repr rfl (d_cons (d_of (f_lst (d_cons (d_call G_last_base hg (hr.mono (by decide)) m_last_base F_last_base.kp b_last_base .nil (fun _ => .nil) (d_cons (d_var 0) d_nil)) (d_cons (d_callK0 (ks := ["x"]) (gD := (fun as bs => as ++ bs)) G_last_base hg (hr.mono (by decide)) m_last_base F_last_base.kp b_last_base_0_x (fun _ _ _ _ _ a b => a.append b) (k_cons (d_var 0) k_nil)) d_nil)))) d_nil)) (d_callB (c_repr hg (u64 hr)) fr_repr rfl (d_cons (d_of (f_lst (d_cons (d_var 4) (d_cons (d_var 4) d_nil)))) d_nil))))))))))))⟩
/-! _law_order_right -/
def b__law_order_right : S → M Out := (sSeq (sSet 1 (dCallU 1 f__law_member [] (aCons (dVar 0) aNil)))
    (sSeq (sIf (dTst (dBin neS (dCall reprN (aCons (dLst (aCons (dCallU 1 f_base_member [] (aCons (dVar 0) aNil)) (aCons (dCallK 1 0 1 f_base_member (fun as bs => as ++ bs) aNil (aCons (dVar 0) aNil)) aNil))) aNil)) (dCall reprN (aCons (dLst (aCons (dVar 1) (aCons (dVar 1) aNil))) aNil))))
    (sRet (dC (.bl false)))
    sNil)
    (sSeq (sIf (dOr (dTst (dBin neD (dCallU 1 f_base_rank [] (aCons (dVar 1) aNil)) (dVar 0))) (dOr (dTst (dBin neD (dCallU 1 f_base_rank [] (aCons (dBin addI (dVar 1) (dC (.int 1))) aNil)) (dBin addI (dVar 0) (dC (.int 1))))) (dNot (dTst (dCallU 1 f_in_base [] (aCons (dVar 1) aNil))))))
    (sRet (dC (.bl false)))
    sNil)
    (sSeq (sOwn 2 (dLst aNil))
    (sSeq (sForG (gArgs 1 [] (aCons (dVar 0) aNil)) gb_base_members 2 (gNm 3)
    (sSeq (sApp 2 (dVar 3))
    (sIf (dTst (dBin eqD (dView (dCall lenN (aCons (dVar 2) aNil))) (dC (.int 9))))
    sBreak
    sNil)))
    (sPub 2 (sRet (dBin eqD (dVar 2) (dComp (iR1 (aCons (dC (.int 9)) aNil)) [4] (gNm 4) tTrue (dCallU 1 f__law_member [] (aCons (dBin addI (dVar 0) (dVar 4)) aNil)))))))))))
def f__law_order_right : FnD := runP 5 b__law_order_right
theorem sc__law_order_right : FnScope ["_law_order", "_law_due", "_law_found", "_law_member_here", "_law_step"] ["_law_order"] (defScope (top 28)) := ⟨rfl, rfl, rfl, by decide +kernel, rfl, by decide +kernel, by decide +kernel⟩
abbrev D__law_order_right (K : PySem.W.Frag) (fd : FuncData) : Prop := FunD K "_law_order_right" "_law_order_right" (defArgs (top 28)) (defBody (top 28)) (defScope (top 28)) [] [] (He.ga K "_law_order_right") fd
theorem ok__law_order_right {P : Program} {w : World} {K : PySem.W.Frag} {mg : Str → Option Value} {base : Heap} (Z : Ctx K mg) {fd : FuncData} (F : D__law_order_right K fd) : FnG P w K mg base (L2.CX P w) 5 (He.ga K "_law_order_right") fd ["_law_order"] (spP K (cl0 K) 1 f__law_order_right) := by
  have fr_repr : mg "repr" = none := Z.fre "repr" (by decide)
  have fr_len : mg "len" = none := Z.fre "len" (by decide)
  have fr_range : mg "range" = none := Z.fre "range" (by decide)
  obtain ⟨fd__law_member, F__law_member⟩ : ∃ fd, D__law_member K fd := Z.says.def_ 20 (d := (dd (.fn "_law_member") "_law_member" "_law_member" (top 25) [] [])) rfl
  have G__law_member : FnG P w K mg base (L2.CX P w) 2 _ fd__law_member ["_law_order"] _ := ok__law_member Z F__law_member
  have m__law_member : mg "_law_member" = some (.ref (He.ga K "_law_member")) := Z.glo "_law_member" (by decide)
  obtain ⟨fd_base_member, F_base_member⟩ : ∃ fd, D_base_member K fd := Z.says.def_ 8 (d := (dd (.fn "base_member") "base_member" "base_member" (top 12) [] [])) rfl
  have G_base_member : FnG P w K mg base (L2.CX P w) 3 _ fd_base_member ["number"] _ := ok_base_member Z F_base_member
  have m_base_member : mg "base_member" = some (.ref (He.ga K "base_member")) := Z.glo "base_member" (by decide)
  obtain ⟨fd_in_base, F_in_base⟩ : ∃ fd, D_in_base K fd := Z.says.def_ 9 (d := (dd (.fn "in_base") "in_base" "in_base" (top 13) [] [])) rfl
  have G_in_base : FnG P w K mg base (L2.CX P w) 3 _ fd_in_base ["x"] _ := ok_in_base Z F_in_base
  have m_in_base : mg "in_base" = some (.ref (He.ga K "in_base")) := Z.glo "in_base" (by decide)
  obtain ⟨fd_base_rank, F_base_rank⟩ : ∃ fd, D_base_rank K fd := Z.says.def_ 10 (d := (dd (.fn "base_rank") "base_rank" "base_rank" (top 14) [] [])) rfl
  have G_base_rank : FnG P w K mg base (L2.CX P w) 3 _ fd_base_rank ["x"] _ := ok_base_rank Z F_base_rank
  have m_base_rank : mg "base_rank" = some (.ref (He.ga K "base_rank")) := Z.glo "base_rank" (by decide)
  obtain ⟨fd_base_members, F_base_members⟩ : ∃ fd, D_base_members K fd := Z.says.def_ 13 (d := (dd (.fn "base_members") "base_members" "base_members" (top 17) [.int 0] [])) rfl
  obtain ⟨gd_base_members, G_base_members, N0_base_members, B_base_members⟩ := ok_base_members (P := P) (w := w) (base := base) Z F_base_members
  have N_base_members : gd_base_members.N.length = 2 := by rw [N0_base_members]; rfl
  have m_base_members : mg "base_members" = some (.ref (He.ga K "base_members")) := Z.glo "base_members" (by decide)
  have b__law_member : Binds K fd__law_member ["_law_order"] [] := F__law_member.bindsN fun _ _ _ _ _ _ us hl => match us, hl with | [_], _ => rfl
  have b_base_member_0_number := kbN F_base_member 0 ["number"] (ps := ["number"]) (fun as bs => as ++ bs) (fun a b => a.append b) fun _ _ _ _ _ _ us ws h1 h2 => match us, ws, h1, h2 with | [], [_], _, _ => rfl
  have b_base_member : Binds K fd_base_member ["number"] [] := F_base_member.bindsN fun _ _ _ _ _ _ us hl => match us, hl with | [_], _ => rfl
  have b_in_base : Binds K fd_in_base ["x"] [] := F_in_base.bindsN fun _ _ _ _ _ _ us hl => match us, hl with | [_], _ => rfl
  have b_base_rank : Binds K fd_base_rank ["x"] [] := F_base_rank.bindsN fun _ _ _ _ _ _ us hl => match us, hl with | [_], _ => rfl
  obtain ⟨db_base_members_1, vb_base_members_1, b_base_members_1⟩ : ∃ ds, Vals [] ds ∧ Binds K fd_base_members ["start"] ds := F_base_members.binds1 1 1 (by decide) rfl fun _ _ _ _ _ _ _ us ks h1 h2 => match us, ks, h1, h2 with | [_], [_], _, _ => ⟨_, rfl, rfl⟩
  have sc := sc__law_order_right
  refine okP F sc rfl rfl (F := b__law_order_right) fun cdv A outer s H E hg hr tk hp => ?_
  exact ⟨_, (s_cons (s_set 1 sc.nd (d_call G__law_member hg (hr.mono (by decide)) m__law_member F__law_member.kp b__law_member .nil (fun _ => .nil) (d_cons (d_var 0) d_nil)))
    (s_cons (s_if (d_tcmp k_neS (d_callB (c_repr hg (u64 hr)) fr_repr rfl (d_cons (d_of (f_lst (d_cons (d_call G_base_member hg (hr.mono (by decide)) m_base_member F_base_member.kp b_base_member .nil (fun _ => .nil) (d_cons (d_var 0) d_nil)) (d_cons (d_callK0 (ks := ["number"]) (gD := (fun as bs => as ++ bs)) G_base_member hg (hr.mono (by decide)) m_base_member F_base_member.kp b_base_member_0_number (fun _ _ _ _ _ a b => a.append b) (k_cons (d_var 0) k_nil)) d_nil)))) d_nil)) (d_callB (c_repr hg (u64 hr)) fr_repr rfl (d_cons (d_of (f_lst (d_cons (d_var 1) (d_cons (d_var 1) d_nil)))) d_nil)))
    (s_one (s_ret d_bl))
    s_nil)
    (s_cons (s_if (d_or (d_tcmp (k_neD (u64 hr)) (d_call G_base_rank hg (hr.mono (by decide)) m_base_rank F_base_rank.kp b_base_rank .nil (fun _ => .nil) (d_cons (d_var 1) d_nil)) (d_var 0)) (d_or (d_tcmp (k_neD (u64 hr)) (d_call G_base_rank hg (hr.mono (by decide)) m_base_rank F_base_rank.kp b_base_rank .nil (fun _ => .nil) (d_cons (d_op k_add (d_var 1) d_int) d_nil)) (d_op k_add (d_var 0) d_int)) (d_or1 (d_not (d_tst (d_call G_in_base hg (hr.mono (by decide)) m_in_base F_in_base.kp b_in_base .nil (fun _ => .nil) (d_cons (d_var 1) d_nil))))))).pt
    (s_one (s_ret d_bl))
    s_nil)
    (s_cons (s_own 2 sc.nd (f_lst d_nil))
    (s_cons (s_forY G_base_members N_base_members B_base_members hg (hr.mono (by decide)) rfl (pgn_call G_base_members (hr.mono (by decide)) m_base_members F_base_members.kp b_base_members_1 vb_base_members_1 (fun _ => .nil) rfl (d_cons (d_var 0) d_nil)) (g_name 3 sc.nd)
    (s_cons (s_app 2 (d_var 3))
    (s_one (s_if (d_tcmp (k_eqD (u64 hr)) (d_view (d_callB c_len fr_len rfl (d_cons (d_var 2) d_nil))) d_int)
    (s_one s_break)
    s_nil))))
    (s_pub 2 (s_one (s_ret (d_cmp (k_eqD (u64 hr)) (d_var 2) (d_of (f_comp (own := [("_law_step", 4)]) rfl sc.nd (w_range1 fr_range (d_cons d_int d_nil)) (blkOk_by (N := ["_law_order", "_law_due", "_law_found", "_law_member_here", "_law_step"]) (sc := defScope (top 28)) (by decide +kernel)) (fun _ _ _ _ _ => (g_name 4 sc.nd)) (fun _ _ _ _ _ => t_nil) (fun _ _ _ _ _ => (d_call G__law_member hg (hr.mono (by decide)) m__law_member F__law_member.kp b__law_member .nil (fun _ => .nil) (d_cons (d_op k_add (d_var 0) (d_var 4)) d_nil))) (by decide))))))))))))⟩
/-! law -/
def b_law : S → M Out := (sSeq (sOwn 1 (dLst aNil))
    (sSeq (sForG (gArgs 1 [.int 0] aNil) gb_base_members 2 (gNm 2)
    (sSeq (sApp 1 (dVar 2))
    (sIf (dTst (dBin eqD (dView (dCall lenN (aCons (dVar 1) aNil))) (dC (.int 2500))))
    sBreak
    sNil)))
    (sPub 1 (sSeq (sIf (dTst (dBin neD (dVar 1) (dComp (iR1 (aCons (dC (.int 2500)) aNil)) [3] (gNm 3) tTrue (dCallU 1 f__law_member [] (aCons (dVar 3) aNil)))))
    (sRet (dC (.bl false)))
    sNil)
    (sSeq (sFor (iEn (aCons (dCutL (dBin catL (dVar 0) (dLst (aCons (dC (.int 0)) aNil))) partNo (partAt (dC (.int 6)))) aNil)) (gTp (gsCons (gNm 4) (gsCons (gNm 5) gsNil)))
    (sSeq (sOwn 6 (dCallU 2 f__law_stream [] (aCons (dVar 5) (aCons (dVar 4) aNil))))
    (sFor (iR1 (aCons (dC (.int 2)) aNil)) (gNm 7)
    (sIf (dOr (dNot (dTst (dCallU 1 f__law_rank_right [] (aCons (dCallI 6 1 f__law_number aNil) aNil)))) (dNot (dTst (dCallU 1 f__law_order_right [] (aCons (dCallI 6 1 f__law_number aNil) aNil)))))
    (sRet (dC (.bl false)))
    sNil))))
    (sRet (dC (.bl true))))))))
def f_law : FnD := runP 8 b_law
theorem sc_law : FnScope ["_law_script", "_law_found", "_law_member_here", "_law_order", "_law_k", "_law_item", "_law_stream_here", "_law_turn"] ["_law_script"] (defScope (top 29)) := ⟨rfl, rfl, rfl, by decide +kernel, rfl, by decide +kernel, by decide +kernel⟩
abbrev D_law (K : PySem.W.Frag) (fd : FuncData) : Prop := FunD K "law" "law" (defArgs (top 29)) (defBody (top 29)) (defScope (top 29)) [] [] (He.ga K "law") fd
theorem ok_law {P : Program} {w : World} {K : PySem.W.Frag} {mg : Str → Option Value} {base : Heap} (Z : Ctx K mg) {fd : FuncData} (F : D_law K fd) : FnG P w K mg base (L2.CX P w) 6 (He.ga K "law") fd ["_law_script"] (spP K (cl0 K) 1 f_law) := by
  have fr_len : mg "len" = none := Z.fre "len" (by decide)
  have fr_range : mg "range" = none := Z.fre "range" (by decide)
  have fr_enumerate : mg "enumerate" = none := Z.fre "enumerate" (by decide)
  obtain ⟨fd_base_members, F_base_members⟩ : ∃ fd, D_base_members K fd := Z.says.def_ 13 (d := (dd (.fn "base_members") "base_members" "base_members" (top 17) [.int 0] [])) rfl
  obtain ⟨gd_base_members, G_base_members, N0_base_members, B_base_members⟩ := ok_base_members (P := P) (w := w) (base := base) Z F_base_members
  have N_base_members : gd_base_members.N.length = 2 := by rw [N0_base_members]; rfl
  have m_base_members : mg "base_members" = some (.ref (He.ga K "base_members")) := Z.glo "base_members" (by decide)
  obtain ⟨fd__law_member, F__law_member⟩ : ∃ fd, D__law_member K fd := Z.says.def_ 20 (d := (dd (.fn "_law_member") "_law_member" "_law_member" (top 25) [] [])) rfl
  have G__law_member : FnG P w K mg base (L2.CX P w) 2 _ fd__law_member ["_law_order"] _ := ok__law_member Z F__law_member
  have m__law_member : mg "_law_member" = some (.ref (He.ga K "_law_member")) := Z.glo "_law_member" (by decide)
  obtain ⟨fd__law_stream, F__law_stream⟩ : ∃ fd, D__law_stream K fd := Z.says.def_ 15 (d := (dd (.fn "_law_stream") "_law_stream" "_law_stream" (top 20) [] [])) rfl
  have G__law_stream : FnG P w K mg base (L2.CX P w) 2 _ fd__law_stream ["_law_item", "_law_k"] _ := ok__law_stream Z F__law_stream
  have m__law_stream : mg "_law_stream" = some (.ref (He.ga K "_law_stream")) := Z.glo "_law_stream" (by decide)
  obtain ⟨fd__law_order_right, F__law_order_right⟩ : ∃ fd, D__law_order_right K fd := Z.says.def_ 23 (d := (dd (.fn "_law_order_right") "_law_order_right" "_law_order_right" (top 28) [] [])) rfl
  have G__law_order_right : FnG P w K mg base (L2.CX P w) 5 _ fd__law_order_right ["_law_order"] _ := ok__law_order_right Z F__law_order_right
  have m__law_order_right : mg "_law_order_right" = some (.ref (He.ga K "_law_order_right")) := Z.glo "_law_order_right" (by decide)
  obtain ⟨fd__law_number, F__law_number⟩ : ∃ fd, D__law_number K fd := Z.says.def_ 17 (d := (dd (.fn "_law_number") "_law_number" "_law_number" (top 22) [] [])) rfl
  have G__law_number : FnG P w K mg base (L2.CX P w) 3 _ fd__law_number ["_law_stream_here"] _ := ok__law_number Z F__law_number
  have m__law_number : mg "_law_number" = some (.ref (He.ga K "_law_number")) := Z.glo "_law_number" (by decide)
  obtain ⟨fd__law_rank_right, F__law_rank_right⟩ : ∃ fd, D__law_rank_right K fd := Z.says.def_ 22 (d := (dd (.fn "_law_rank_right") "_law_rank_right" "_law_rank_right" (top 27) [] [])) rfl
  have G__law_rank_right : FnG P w K mg base (L2.CX P w) 4 _ fd__law_rank_right ["_law_given"] _ := ok__law_rank_right Z F__law_rank_right
  have m__law_rank_right : mg "_law_rank_right" = some (.ref (He.ga K "_law_rank_right")) := Z.glo "_law_rank_right" (by decide)
  obtain ⟨db_base_members_0, vb_base_members_0, b_base_members_0⟩ : ∃ ds, Vals [(V.int 0)] ds ∧ Binds K fd_base_members ["start"] ds := F_base_members.binds1 0 0 (by decide) rfl fun _ _ _ _ _ _ _ us ks h1 h2 => match us, ks, h1, h2 with | [], [_], _, _ => ⟨_, rfl, rfl⟩
  have b__law_member : Binds K fd__law_member ["_law_order"] [] := F__law_member.bindsN fun _ _ _ _ _ _ us hl => match us, hl with | [_], _ => rfl
  have b__law_stream : Binds K fd__law_stream ["_law_item", "_law_k"] [] := F__law_stream.bindsN fun _ _ _ _ _ _ us hl => match us, hl with | [_, _], _ => rfl
  have b__law_order_right : Binds K fd__law_order_right ["_law_order"] [] := F__law_order_right.bindsN fun _ _ _ _ _ _ us hl => match us, hl with | [_], _ => rfl
  have b__law_rank_right : Binds K fd__law_rank_right ["_law_given"] [] := F__law_rank_right.bindsN fun _ _ _ _ _ _ us hl => match us, hl with | [_], _ => rfl
  have b__law_number : Binds K fd__law_number ["_law_stream_here"] [] := F__law_number.bindsN fun _ _ _ _ _ _ us hl => match us, hl with | [_], _ => rfl
  have sc := sc_law
  refine okP F sc rfl rfl (F := b_law) fun cdv A outer s H E hg hr tk hp => ?_
  exact ⟨_, (s_cons (s_own 1 sc.nd (f_lst d_nil))
    (s_cons (s_forY G_base_members N_base_members B_base_members hg (hr.mono (by decide)) rfl (pgn_call0 G_base_members (hr.mono (by decide)) m_base_members F_base_members.kp b_base_members_0 vb_base_members_0 (fun _ => .cons (.int 0) (.nil)) rfl) (g_name 2 sc.nd)
    (s_cons (s_app 1 (d_var 2))
    (s_one (s_if (d_tcmp (k_eqD (u64 hr)) (d_view (d_callB c_len fr_len rfl (d_cons (d_var 1) d_nil))) d_int)
    (s_one s_break)
    s_nil))))
    (s_pub 1 (s_cons (s_if (d_tcmp (k_neD (u64 hr)) (d_var 1) (d_of (f_comp (own := [("_law_order", 3)]) rfl sc.nd (w_range1 fr_range (d_cons d_int d_nil)) (blkOk_by (N := ["_law_script", "_law_found", "_law_member_here", "_law_order", "_law_k", "_law_item", "_law_stream_here", "_law_turn"]) (sc := defScope (top 29)) (by decide +kernel)) (fun _ _ _ _ _ => (g_name 3 sc.nd)) (fun _ _ _ _ _ => t_nil) (fun _ _ _ _ _ => (d_call G__law_member hg (hr.mono (by decide)) m__law_member F__law_member.kp b__law_member .nil (fun _ => .nil) (d_cons (d_var 3) d_nil))) (by decide))))
    (s_one (s_ret d_bl))
    s_nil)
    (s_cons (s_for hp (w_enum fr_enumerate (d_cons (d_of (f_cutL (d_op k_catL (d_var 0) (d_of (f_lst (d_cons d_int d_nil)))) o_none (o_some d_int))) d_nil)) (g_tup rfl (gs_cons (g_name 4 sc.nd) (gs_cons (g_name 5 sc.nd) gs_nil)) 2 (gsl_cons (gsl_cons gsl_nil)))
    (s_cons (s_own 6 sc.nd (f_call G__law_stream hg (hr.mono (by decide)) m__law_stream F__law_stream.kp b__law_stream .nil (fun _ => .nil) (d_cons (d_var 5) (d_cons (d_var 4) d_nil))))
    (s_one (s_for hp (w_range1 fr_range (d_cons d_int d_nil)) (g_name 7 sc.nd)
    (s_one (s_if (d_or (d_not (d_tst (d_call G__law_rank_right hg (hr.mono (by decide)) m__law_rank_right F__law_rank_right.kp b__law_rank_right .nil (fun _ => .nil) (d_cons (d_callI 6 G__law_number hg (hr.mono (by decide)) m__law_number F__law_number.kp b__law_number d_nil) d_nil)))) (d_or1 (d_not (d_tst (d_call G__law_order_right hg (hr.mono (by decide)) m__law_order_right F__law_order_right.kp b__law_order_right .nil (fun _ => .nil) (d_cons (d_callI 6 G__law_number hg (hr.mono (by decide)) m__law_number F__law_number.kp b__law_number d_nil) d_nil)))))).pt
    (s_one (s_ret d_bl))
    s_nil))))))
    (s_one (s_ret d_bl)))))))⟩
end Tf
end
noncomputable section
namespace Tf
open PySem Dt
theorem e_is_int (i : Int) : f_is_integer [.int i, .non, .non] = ok (.bl true) := by
  simp only [f_is_integer, b_is_integer, runP, runF, runI, sSeq, sSet, sRet, sRetF, sRetN, sIf, sAsg, sPar, sPar3, sExpr, sNil, sNever, sPub, sOwn, sApp, sPut, dBin, dVar, dC, dTst, dNot, dAnd, dOr, vAnd, vOr, vNot, dIf, dTup, dLst, aNil, aCons, dCall, dCallU, dCallK, dCallI, dIsi, dOwnIx, gNm, gTp, gsNil, gsCons, iR1, iEn, iLst, dListZip, dRep, ownL, ownD, putL, putD, pubS, bd_ok', v_add, v_sub, v_lt, v_le, v_gt, v_ge, v_is0, v_is1, v_eqI, v_neI, v_isII, v_isBI, List.map_cons, List.map_nil, List.cons_append, List.nil_append, List.append_nil, List.length_cons, List.length_nil, List.replicate, List.getElem?_cons_zero, List.getElem?_cons_succ, List.set_cons_zero, List.set_cons_succ, if_true, if_false, Nat.reduceAdd, Nat.reduceSub, Nat.reduceEqDiff, Bool.false_eq_true, Bool.not_true, Bool.not_false, decide_true, decide_false, and_self, bdC_ok, bdI_ok, bdM_ok, nx_ok, exI_ok, tView, dView]
theorem e_is_int0 (i : Int) (h : 0 ≤ i) : f_is_integer [.int i, .int 0, .non] = ok (.bl true) := by
  simp only [f_is_integer, b_is_integer, runP, runF, runI, sSeq, sSet, sRet, sRetF, sRetN, sIf, sAsg, sPar, sPar3, sExpr, sNil, sNever, sPub, sOwn, sApp, sPut, dBin, dVar, dC, dTst, dNot, dAnd, dOr, vAnd, vOr, vNot, dIf, dTup, dLst, aNil, aCons, dCall, dCallU, dCallK, dCallI, dIsi, dOwnIx, gNm, gTp, gsNil, gsCons, iR1, iEn, iLst, dListZip, dRep, ownL, ownD, putL, putD, pubS, bd_ok', v_add, v_sub, v_lt, v_le, v_gt, v_ge, v_is0, v_is1, v_eqI, v_neI, v_isII, v_isBI, List.map_cons, List.map_nil, List.cons_append, List.nil_append, List.append_nil, List.length_cons, List.length_nil, List.replicate, List.getElem?_cons_zero, List.getElem?_cons_succ, List.set_cons_zero, List.set_cons_succ, if_true, if_false, Nat.reduceAdd, Nat.reduceSub, Nat.reduceEqDiff, Bool.false_eq_true, Bool.not_true, Bool.not_false, decide_true, decide_false, and_self, bdC_ok, bdI_ok, bdM_ok, nx_ok, exI_ok, tView, dView, h]
theorem e_check (i : Int) (h : 0 ≤ i) : f_check_number [.int i, .int 0, .non] = ok .non := by
  simp only [f_check_number, b_check_number, runP, runF, runI, sSeq, sSet, sRet, sRetF, sRetN, sIf, sAsg, sPar, sPar3, sExpr, sNil, sNever, sPub, sOwn, sApp, sPut, dBin, dVar, dC, dTst, dNot, dAnd, dOr, vAnd, vOr, vNot, dIf, dTup, dLst, aNil, aCons, dCall, dCallU, dCallK, dCallI, dIsi, dOwnIx, gNm, gTp, gsNil, gsCons, iR1, iEn, iLst, dListZip, dRep, ownL, ownD, putL, putD, pubS, bd_ok', v_add, v_sub, v_lt, v_le, v_gt, v_ge, v_is0, v_is1, v_eqI, v_neI, v_isII, v_isBI, List.map_cons, List.map_nil, List.cons_append, List.nil_append, List.append_nil, List.length_cons, List.length_nil, List.replicate, List.getElem?_cons_zero, List.getElem?_cons_succ, List.set_cons_zero, List.set_cons_succ, if_true, if_false, Nat.reduceAdd, Nat.reduceSub, Nat.reduceEqDiff, Bool.false_eq_true, Bool.not_true, Bool.not_false, decide_true, decide_false, and_self, bdC_ok, bdI_ok, bdM_ok, nx_ok, exI_ok, tView, dView, e_is_int0 i h]
theorem pow10 (n : Nat) (h : n ≤ 1000000) : powI (.int 10) (.int n) = ok (.int (10 ^ n)) := by
  rw [v_pow]
  · rfl
  · refine ⟨by omega, by omega, by decide⟩
def mixed (a k : Int) : Int := ((a % 2147483647 + 7919 * k * k + 31 * k) * 48271 % 2147483647) * (69621 + 2 * k) % 2147483629
theorem mixed_pos (a k : Int) : 0 ≤ mixed a k ∧ mixed a k < 2147483629 := ⟨Int.emod_nonneg _ (by decide), Int.emod_lt_of_pos _ (by decide)⟩
theorem e_mixed (a k : Int) (h0 : 0 ≤ k) (hk : k < 2 ^ 60) : f__law_mixed [.int a, .int k] = ok (.int (mixed a k)) := by
  have h1 : -(2 ^ 64) < k := by omega
  have h2 : k < 2 ^ 64 := by omega
  have h3 := Int.emod_nonneg ((a % 2147483647 + 7919 * k * k + 31 * k) * 48271) (show (2147483647 : Int) ≠ 0 by decide)
  have h4 := Int.emod_lt_of_pos ((a % 2147483647 + 7919 * k * k + 31 * k) * 48271) (show (0 : Int) < 2147483647 by decide)
  have h5 : -(2 ^ 64) < (a % 2147483647 + 7919 * k * k + 31 * k) * 48271 % 2147483647 := by omega
  have h6 : (a % 2147483647 + 7919 * k * k + 31 * k) * 48271 % 2147483647 < 2 ^ 64 := by omega
  simp only [f__law_mixed, b__law_mixed, runP, runF, runI, sSeq, sSet, sRet, sRetF, sRetN, sIf, sAsg, sPar, sPar3, sExpr, sNil, sNever, sPub, sOwn, sApp, sPut, dBin, dVar, dC, dTst, dNot, dAnd, dOr, vAnd, vOr, vNot, dIf, dTup, dLst, aNil, aCons, dCall, dCallU, dCallK, dCallI, dIsi, dOwnIx, gNm, gTp, gsNil, gsCons, iR1, iEn, iLst, dListZip, dRep, ownL, ownD, putL, putD, pubS, bd_ok', v_add, v_sub, v_lt, v_le, v_gt, v_ge, v_is0, v_is1, v_eqI, v_neI, v_isII, v_isBI, List.map_cons, List.map_nil, List.cons_append, List.nil_append, List.append_nil, List.length_cons, List.length_nil, List.replicate, List.getElem?_cons_zero, List.getElem?_cons_succ, List.set_cons_zero, List.set_cons_succ, if_true, if_false, Nat.reduceAdd, Nat.reduceSub, Nat.reduceEqDiff, Bool.false_eq_true, Bool.not_true, Bool.not_false, decide_true, decide_false, and_self, bdC_ok, bdI_ok, bdM_ok, nx_ok, exI_ok, tView, dView, v_mod (show (0 : Int) < 2147483647 by decide), v_mod (show (0 : Int) < 2147483629 by decide), v_mulL (show -(2 ^ 64) < (7919 : Int) by decide) (show (7919 : Int) < 2 ^ 64 by decide), v_mulL (show -(2 ^ 64) < (31 : Int) by decide) (show (31 : Int) < 2 ^ 64 by decide),
    v_mulL (show -(2 ^ 64) < (2 : Int) by decide) (show (2 : Int) < 2 ^ 64 by decide), v_mulR (show -(2 ^ 64) < (48271 : Int) by decide) (show (48271 : Int) < 2 ^ 64 by decide), v_mulR h1 h2, v_mulL h5 h6]
  rfl
/-- a stream of draws, its counter at most n -/
def Strm (n : Nat) (d : D) : Prop := ∃ a c m : Int, d = .lst [.int a, .int c, .int m] ∧ 0 ≤ a ∧ 0 ≤ c ∧ c ≤ n
theorem Strm.mono {n m : Nat} {d : D} (h : Strm n d) (l : n ≤ m) : Strm m d := by
  obtain ⟨a, c, x, e, h1, h2, h3⟩ := h
  exact ⟨a, c, x, e, h1, h2, by omega⟩
theorem Strm.reg {n : Nat} {d : D} (h : Strm n d) : d.isReg = false := by
  obtain ⟨a, c, x, rfl, _⟩ := h
  rfl
theorem three {x y z : D} : [x, y, z].length ≤ sizeLine := by
  show 3 ≤ 2 ^ 24
  decide
theorem e_stream (a k : Int) (h0 : 0 ≤ k) (hk : k < 2 ^ 60) : ∃ d, f__law_stream [.int a, .int k] = ok d ∧ Strm 0 d := by
  have hp := pow10 18 (by decide)
  have ht : 0 + 1 + 1 + 1 ≤ sizeLine := by
    show 3 ≤ 2 ^ 24
    decide
  by_cases h : (10 : Int) ^ 18 ≤ a
  · refine ⟨.lst [.int a, .int 0, .int (mixed a k)], ?_, a, 0, _, rfl, by omega, by omega, by omega⟩
    simp only [f__law_stream, b__law_stream, runP, runF, runI, sSeq, sSet, sRet, sRetF, sRetN, sIf, sAsg, sPar, sPar3, sExpr, sNil, sNever, sPub, sOwn, sApp, sPut, dBin, dVar, dC, dTst, dNot, dAnd, dOr, vAnd, vOr, vNot, dIf, dTup, dLst, aNil, aCons, dCall, dCallU, dCallK, dCallI, dIsi, dOwnIx, gNm, gTp, gsNil, gsCons, iR1, iEn, iLst, dListZip, dRep, ownL, ownD, putL, putD, pubS, bd_ok', v_add, v_sub, v_lt, v_le, v_gt, v_ge, v_is0, v_is1, v_eqI, v_neI, v_isII, v_isBI, List.map_cons, List.map_nil, List.cons_append, List.nil_append, List.append_nil, List.length_cons, List.length_nil, List.replicate, List.getElem?_cons_zero, List.getElem?_cons_succ, List.set_cons_zero, List.set_cons_succ, if_true, if_false, Nat.reduceAdd, Nat.reduceSub, Nat.reduceEqDiff, Bool.false_eq_true, Bool.not_true, Bool.not_false, decide_true, decide_false, and_self, bdC_ok, bdI_ok, bdM_ok, nx_ok, exI_ok, tView, dView, show (18 : Int) = ((18 : Nat) : Int) from rfl, hp, e_mixed a k h0 hk, h, three, ht]
  · refine ⟨.lst [.int 0, .int 0, .int (mixed a k)], ?_, 0, 0, _, rfl, by omega, by omega, by omega⟩
    simp only [f__law_stream, b__law_stream, runP, runF, runI, sSeq, sSet, sRet, sRetF, sRetN, sIf, sAsg, sPar, sPar3, sExpr, sNil, sNever, sPub, sOwn, sApp, sPut, dBin, dVar, dC, dTst, dNot, dAnd, dOr, vAnd, vOr, vNot, dIf, dTup, dLst, aNil, aCons, dCall, dCallU, dCallK, dCallI, dIsi, dOwnIx, gNm, gTp, gsNil, gsCons, iR1, iEn, iLst, dListZip, dRep, ownL, ownD, putL, putD, pubS, bd_ok', v_add, v_sub, v_lt, v_le, v_gt, v_ge, v_is0, v_is1, v_eqI, v_neI, v_isII, v_isBI, List.map_cons, List.map_nil, List.cons_append, List.nil_append, List.append_nil, List.length_cons, List.length_nil, List.replicate, List.getElem?_cons_zero, List.getElem?_cons_succ, List.set_cons_zero, List.set_cons_succ, if_true, if_false, Nat.reduceAdd, Nat.reduceSub, Nat.reduceEqDiff, Bool.false_eq_true, Bool.not_true, Bool.not_false, decide_true, decide_false, and_self, bdC_ok, bdI_ok, bdM_ok, nx_ok, exI_ok, tView, dView, show (18 : Int) = ((18 : Nat) : Int) from rfl, hp, e_mixed a k h0 hk, h, three, ht]
theorem at0 {x y z : D} : L2.atI [x, y, z] 0 = some x := rfl
theorem at1 {x y z : D} : L2.atI [x, y, z] 1 = some y := rfl
theorem at2 {x y z : D} : L2.atI [x, y, z] 2 = some z := rfl
theorem ix0 : L2.ixN 3 0 = some 0 := rfl
theorem ix1 : L2.ixN 3 1 = some 1 := rfl
theorem e_draw {n : Nat} {d : D} {top : Int} (h : Strm n d) (hn : n < 2 ^ 50) (ht : 0 < top) (hd : divOk top) : ∃ r d', f__law_draw d [.int top] = ok (.int r, d') ∧ 0 ≤ r ∧ r < top ∧ Strm (n + 1) d' := by
  obtain ⟨a, c, m, rfl, h1, h2, h3⟩ := h
  have e1 := e_mixed m (c + 1) (by omega) (by omega)
  have e2 := e_mixed (mixed m (c + 1)) 7 (by decide) (by decide)
  by_cases ha : a = 0
  · subst ha
    refine ⟨mixed (mixed m (c + 1)) 7 % top, .lst [.int 0, .int (c + 1), .int m], ?_, Int.emod_nonneg _ (by omega), Int.emod_lt_of_pos _ ht, 0, c + 1, m, rfl, by omega, by omega, by omega⟩
    simp only [f__law_draw, b__law_draw, runP, runF, runI, sSeq, sSet, sRet, sRetF, sRetN, sIf, sAsg, sPar, sPar3, sExpr, sNil, sNever, sPub, sOwn, sApp, sPut, dBin, dVar, dC, dTst, dNot, dAnd, dOr, vAnd, vOr, vNot, dIf, dTup, dLst, aNil, aCons, dCall, dCallU, dCallK, dCallI, dIsi, dOwnIx, gNm, gTp, gsNil, gsCons, iR1, iEn, iLst, dListZip, dRep, ownL, ownD, putL, putD, pubS, bd_ok', v_add, v_sub, v_lt, v_le, v_gt, v_ge, v_is0, v_is1, v_eqI, v_neI, v_isII, v_isBI, List.map_cons, List.map_nil, List.cons_append, List.nil_append, List.append_nil, List.length_cons, List.length_nil, List.replicate, List.getElem?_cons_zero, List.getElem?_cons_succ, List.set_cons_zero, List.set_cons_succ, if_true, if_false, Nat.reduceAdd, Nat.reduceSub, Nat.reduceEqDiff, Bool.false_eq_true, Bool.not_true, Bool.not_false, decide_true, decide_false, and_self, bdC_ok, bdI_ok, bdM_ok, nx_ok, exI_ok, tView, dView, at0, at1, at2, ix0, ix1, e1, e2, v_mod ht]
  · refine ⟨a % top, .lst [.int (a / top), .int (c + 1), .int m], ?_, Int.emod_nonneg _ (by omega), Int.emod_lt_of_pos _ ht, a / top, c + 1, m, rfl, Int.ediv_nonneg h1 (by omega), by omega, by omega⟩
    simp only [f__law_draw, b__law_draw, runP, runF, runI, sSeq, sSet, sRet, sRetF, sRetN, sIf, sAsg, sPar, sPar3, sExpr, sNil, sNever, sPub, sOwn, sApp, sPut, dBin, dVar, dC, dTst, dNot, dAnd, dOr, vAnd, vOr, vNot, dIf, dTup, dLst, aNil, aCons, dCall, dCallU, dCallK, dCallI, dIsi, dOwnIx, gNm, gTp, gsNil, gsCons, iR1, iEn, iLst, dListZip, dRep, ownL, ownD, putL, putD, pubS, bd_ok', v_add, v_sub, v_lt, v_le, v_gt, v_ge, v_is0, v_is1, v_eqI, v_neI, v_isII, v_isBI, List.map_cons, List.map_nil, List.cons_append, List.nil_append, List.append_nil, List.length_cons, List.length_nil, List.replicate, List.getElem?_cons_zero, List.getElem?_cons_succ, List.set_cons_zero, List.set_cons_succ, if_true, if_false, Nat.reduceAdd, Nat.reduceSub, Nat.reduceEqDiff, Bool.false_eq_true, Bool.not_true, Bool.not_false, decide_true, decide_false, and_self, bdC_ok, bdI_ok, bdM_ok, nx_ok, exI_ok, tView, dView, at0, at1, at2, ix0, ix1, e1, e2, v_mod ht, v_div hd, ha]
theorem divOk_nat {n : Nat} (h : 0 < n) (h2 : n < 2 ^ 9000) : divOk (n : Int) := by
  refine ⟨by omega, ?_⟩
  have : (n : Int).natAbs = n := rfl
  rw [this]
  exact (Nat.log2_lt (by omega)).mpr h2
theorem pw_lt {b n m : Nat} (hb : b ^ n < 2 ^ m) (hm : 2 ^ m ≤ 2 ^ 9000) : b ^ n < 2 ^ 9000 := Nat.lt_of_lt_of_le hb hm
theorem dv4 : divOk 4 := divOk_nat (n := 4) (by decide) (Nat.lt_of_lt_of_le (show 4 < 2 ^ 3 by decide) (Nat.pow_le_pow_right (by decide) (by decide)))
theorem dvSmall {n : Nat} (h : 0 < n) (h2 : n < 2 ^ 400) : divOk (n : Int) := divOk_nat h (Nat.lt_of_lt_of_le h2 (Nat.pow_le_pow_right (by decide) (by decide)))
/-- the number of a stream -/
theorem e_number {n : Nat} {d : D} (h : Strm n d) (hn : n < 2 ^ 49) : ∃ r d', f__law_number d [] = ok (.int r, d') ∧ 0 ≤ r ∧ r < 3 ^ 126 ∧ Strm (n + 130) d' := by
  obtain ⟨w, d1, e1, w0, w1, s1⟩ := e_draw (top := 4) h (by omega) (by decide) (dvSmall (n := 4) (by decide) (by decide))
  have p30 := pow10 30 (by decide)
  by_cases h0 : w = 0
  · subst h0
    obtain ⟨r, d2, e2, r0, r1, s2⟩ := e_draw (top := 100) s1 (by omega) (by decide) (dvSmall (n := 100) (by decide) (by decide))
    refine ⟨r, d2, ?_, r0, Int.lt_trans r1 (by decide), s2.mono (by omega)⟩
    simp only [f__law_number, b__law_number, runP, runF, runI, sSeq, sSet, sRet, sRetF, sRetN, sIf, sAsg, sPar, sPar3, sExpr, sNil, sNever, sPub, sOwn, sApp, sPut, dBin, dVar, dC, dTst, dNot, dAnd, dOr, vAnd, vOr, vNot, dIf, dTup, dLst, aNil, aCons, dCall, dCallU, dCallK, dCallI, dIsi, dOwnIx, gNm, gTp, gsNil, gsCons, iR1, iEn, iLst, dListZip, dRep, ownL, ownD, putL, putD, pubS, bd_ok', v_add, v_sub, v_lt, v_le, v_gt, v_ge, v_is0, v_is1, v_eqI, v_neI, v_isII, v_isBI, List.map_cons, List.map_nil, List.cons_append, List.nil_append, List.append_nil, List.length_cons, List.length_nil, List.replicate, List.getElem?_cons_zero, List.getElem?_cons_succ, List.set_cons_zero, List.set_cons_succ, if_true, if_false, Nat.reduceAdd, Nat.reduceSub, Nat.reduceEqDiff, Bool.false_eq_true, Bool.not_true, Bool.not_false, decide_true, decide_false, and_self, bdC_ok, bdI_ok, bdM_ok, nx_ok, exI_ok, tView, dView, e1, e2, h.reg, s1.reg]
  by_cases h1 : w = 1
  · subst h1
    obtain ⟨r, d2, e2, r0, r1, s2⟩ := e_draw (top := 10 ^ 30) s1 (by omega) (by decide) (dvSmall (n := 10 ^ 30) (by decide) (by decide))
    obtain ⟨q, d3, e3, q0, q1, s3⟩ := e_draw (top := 10 ^ 30) s2 (by omega) (by decide) (dvSmall (n := 10 ^ 30) (by decide) (by decide))
    have hr1 : -(2 ^ 64) < r := by omega
    refine ⟨r * 10 ^ 30 + q, d3, ?_, by omega, ?_, s3.mono (by omega)⟩
    · have hm : mulI (.int r) (.int (10 ^ 30)) = ok (.int (r * 10 ^ 30)) := by
        refine if_pos (.inr (.inr ?_))
        have a1 : r.natAbs < 2 ^ 100 := by omega
        have a2 : r.natAbs.log2 ≤ 100 := by
          by_cases z : r.natAbs = 0
          · rw [z]
            decide
          · exact Nat.le_of_lt ((Nat.log2_lt z).mpr a1)
        have a3 : (10 ^ 30 : Int).natAbs.log2 ≤ 100 := by decide
        omega
      simp only [f__law_number, b__law_number, runP, runF, runI, sSeq, sSet, sRet, sRetF, sRetN, sIf, sAsg, sPar, sPar3, sExpr, sNil, sNever, sPub, sOwn, sApp, sPut, dBin, dVar, dC, dTst, dNot, dAnd, dOr, vAnd, vOr, vNot, dIf, dTup, dLst, aNil, aCons, dCall, dCallU, dCallK, dCallI, dIsi, dOwnIx, gNm, gTp, gsNil, gsCons, iR1, iEn, iLst, dListZip, dRep, ownL, ownD, putL, putD, pubS, bd_ok', v_add, v_sub, v_lt, v_le, v_gt, v_ge, v_is0, v_is1, v_eqI, v_neI, v_isII, v_isBI, List.map_cons, List.map_nil, List.cons_append, List.nil_append, List.append_nil, List.length_cons, List.length_nil, List.replicate, List.getElem?_cons_zero, List.getElem?_cons_succ, List.set_cons_zero, List.set_cons_succ, if_true, if_false, Nat.reduceAdd, Nat.reduceSub, Nat.reduceEqDiff, Bool.false_eq_true, Bool.not_true, Bool.not_false, decide_true, decide_false, and_self, bdC_ok, bdI_ok, bdM_ok, nx_ok, exI_ok, tView, dView, show (30 : Int) = ((30 : Nat) : Int) from rfl, p30, e1, e2, e3, hm, h.reg, s1.reg, s2.reg, show ¬ (1 : Int) = 0 by decide]
    · have : (10 : Int) ^ 30 * 10 ^ 30 < 3 ^ 126 := by decide
      omega
  -- the loop
  obtain ⟨c, d2, e2, c0, c1, s2⟩ := e_draw (top := 120) s1 (by omega) (by decide) (dvSmall (n := 120) (by decide) (by decide))
  have hc : rngOk c := ⟨by omega, by omega⟩
  have len : (rangeD 0 c.toNat).length = c.toNat := rangeD_len _ _
  have loop : ∃ s', forL (gNm 3) (sSet 2 (dBin addI (dBin mulI (dC (.int 3)) (dVar 2)) (dIf (dTst (dBin eqD (dVar 1) (dC (.int 3)))) (dCallI 0 2 f__law_draw (aCons (dC (.int 2)) aNil)) (dC (.int 0))))) (rangeD 0 c.toNat) [.io d2, .val (.int w), .val (.int 1), .un] = ok (.nx s') ∧
      ∃ (dd : D) (f : Int) (x : Sl), s' = [.io dd, .val (.int w), .val (.int f), x] ∧ Strm (n + 2 + c.toNat) dd ∧ 0 ≤ f ∧ f + 1 ≤ 2 * 3 ^ c.toNat := by
    obtain ⟨s', e, dd, f, x, p1, p2, p3, p4⟩ := forL_inv (T := gNm 3) (F := sSet 2 (dBin addI (dBin mulI (dC (.int 3)) (dVar 2)) (dIf (dTst (dBin eqD (dVar 1) (dC (.int 3)))) (dCallI 0 2 f__law_draw (aCons (dC (.int 2)) aNil)) (dC (.int 0)))))
      (fun i s => ∃ (dd : D) (f : Int) (x : Sl), s = [.io dd, .val (.int w), .val (.int f), x] ∧ Strm (n + 2 + i) dd ∧ 0 ≤ f ∧ f + 1 ≤ 2 * 3 ^ i) (rangeD 0 c.toNat) 0 [.io d2, .val (.int w), .val (.int 1), .un] ⟨d2, 1, .un, rfl, s2, by decide, by decide⟩ (by
        rintro i d s hi ⟨dd, f, x, rfl, q1, q2, q3⟩
        have hi' : i < c.toNat := by
          (have := (List.getElem?_eq_some_iff.mp hi).1)
          rw [len] at this
          exact this
        rw [Nat.zero_add] at q1 q3 ⊢
        have q4 : (2 : Int) * 3 ^ (i + 1) = 3 * (2 * 3 ^ i) := by
          rw [Int.pow_succ]
          omega
        by_cases h3 : w = 3
        · subst h3
          obtain ⟨r, d3, e3, r0, r1, s3⟩ := e_draw (top := 2) q1 (by omega) (by decide) (dvSmall (n := 2) (by decide) (by decide))
          refine ⟨[.io dd, .val (.int 3), .val (.int f), .val d], [.io d3, .val (.int 3), .val (.int (3 * f + r)), .val d], rfl, ?_, d3, 3 * f + r, .val d, rfl, s3, by omega, by omega⟩
          simp only [runP, runF, runI, sSeq, sSet, sRet, sRetF, sRetN, sIf, sAsg, sPar, sPar3, sExpr, sNil, sNever, sPub, sOwn, sApp, sPut, dBin, dVar, dC, dTst, dNot, dAnd, dOr, vAnd, vOr, vNot, dIf, dTup, dLst, aNil, aCons, dCall, dCallU, dCallK, dCallI, dIsi, dOwnIx, gNm, gTp, gsNil, gsCons, iR1, iEn, iLst, dListZip, dRep, ownL, ownD, putL, putD, pubS, bd_ok', v_add, v_sub, v_lt, v_le, v_gt, v_ge, v_is0, v_is1, v_eqI, v_neI, v_isII, v_isBI, List.map_cons, List.map_nil, List.cons_append, List.nil_append, List.append_nil, List.length_cons, List.length_nil, List.replicate, List.getElem?_cons_zero, List.getElem?_cons_succ, List.set_cons_zero, List.set_cons_succ, if_true, if_false, Nat.reduceAdd, Nat.reduceSub, Nat.reduceEqDiff, Bool.false_eq_true, Bool.not_true, Bool.not_false, decide_true, decide_false, and_self, bdC_ok, bdI_ok, bdM_ok, nx_ok, exI_ok, tView, dView, v_mulL (show -(2 ^ 64) < (3 : Int) by decide) (show (3 : Int) < 2 ^ 64 by decide), e3, q1.reg]
        · refine ⟨[.io dd, .val (.int w), .val (.int f), .val d], [.io dd, .val (.int w), .val (.int (3 * f + 0)), .val d], rfl, ?_, dd, 3 * f + 0, .val d, rfl, q1.mono (by omega), by omega, by omega⟩
          simp only [runP, runF, runI, sSeq, sSet, sRet, sRetF, sRetN, sIf, sAsg, sPar, sPar3, sExpr, sNil, sNever, sPub, sOwn, sApp, sPut, dBin, dVar, dC, dTst, dNot, dAnd, dOr, vAnd, vOr, vNot, dIf, dTup, dLst, aNil, aCons, dCall, dCallU, dCallK, dCallI, dIsi, dOwnIx, gNm, gTp, gsNil, gsCons, iR1, iEn, iLst, dListZip, dRep, ownL, ownD, putL, putD, pubS, bd_ok', v_add, v_sub, v_lt, v_le, v_gt, v_ge, v_is0, v_is1, v_eqI, v_neI, v_isII, v_isBI, List.map_cons, List.map_nil, List.cons_append, List.nil_append, List.append_nil, List.length_cons, List.length_nil, List.replicate, List.getElem?_cons_zero, List.getElem?_cons_succ, List.set_cons_zero, List.set_cons_succ, if_true, if_false, Nat.reduceAdd, Nat.reduceSub, Nat.reduceEqDiff, Bool.false_eq_true, Bool.not_true, Bool.not_false, decide_true, decide_false, and_self, bdC_ok, bdI_ok, bdM_ok, nx_ok, exI_ok, tView, dView, v_mulL (show -(2 ^ 64) < (3 : Int) by decide) (show (3 : Int) < 2 ^ 64 by decide), h3])
    rw [len, Nat.zero_add] at p2 p4
    exact ⟨s', e, dd, f, x, p1, p2, p3, p4⟩
  obtain ⟨_, eL, d3, f, x, rfl, s3, f0, f1⟩ := loop
  obtain ⟨q, d4, e4, q0, q1, s4⟩ := e_draw (top := 3) s3 (by omega) (by decide) (dvSmall (n := 3) (by decide) (by decide))
  have pc : (3 : Int) ^ c.toNat ≤ 3 ^ 119 := by
    have z : (3 : Nat) ^ c.toNat ≤ 3 ^ 119 := Nat.pow_le_pow_right (by decide) (by omega)
    exact_mod_cast z
  have p126 : (2 : Int) * 3 ^ 119 + 10 < 3 ^ 126 := by decide
  refine ⟨if f + q - 1 > 0 then f + q - 1 else 0, d4, ?_, by split <;> omega, by split <;> omega, s4.mono (by omega)⟩
  simp only [f__law_number, b__law_number, sFor, max2N, runP, runF, runI, sSeq, sSet, sRet, sRetF, sRetN, sIf, sAsg, sPar, sPar3, sExpr, sNil, sNever, sPub, sOwn, sApp, sPut, dBin, dVar, dC, dTst, dNot, dAnd, dOr, vAnd, vOr, vNot, dIf, dTup, dLst, aNil, aCons, dCall, dCallU, dCallK, dCallI, dIsi, dOwnIx, gNm, gTp, gsNil, gsCons, iR1, iEn, iLst, dListZip, dRep, ownL, ownD, putL, putD, pubS, bd_ok', v_add, v_sub, v_lt, v_le, v_gt, v_ge, v_is0, v_is1, v_eqI, v_neI, v_isII, v_isBI, List.map_cons, List.map_nil, List.cons_append, List.nil_append, List.append_nil, List.length_cons, List.length_nil, List.replicate, List.getElem?_cons_zero, List.getElem?_cons_succ, List.set_cons_zero, List.set_cons_succ, if_true, if_false, Nat.reduceAdd, Nat.reduceSub, Nat.reduceEqDiff, Bool.false_eq_true, Bool.not_true, Bool.not_false, decide_true, decide_false, and_self, bdC_ok, bdI_ok, bdM_ok, nx_ok, exI_ok, tView, dView, e1, e2, h0, h1, hc, eL, e4, h.reg, s1.reg, s3.reg]
def dg (r n : Nat) : List Nat := if h : n = 0 ∨ r < 2 then [] else n % r :: dg r (n / r)
termination_by n
decreasing_by
  have h1 : n ≠ 0 := fun e => h (.inl e)
  exact Nat.div_lt_self (by omega) (by omega)
theorem dg_zero (r : Nat) : dg r 0 = [] := by
  rw [dg, dif_pos (.inl rfl)]
theorem dg_pos {r n : Nat} (hr : 2 ≤ r) (h : 0 < n) : dg r n = n % r :: dg r (n / r) := by
  rw [dg, dif_neg (by omega)]
theorem dg_len {r : Nat} (hr : 2 ≤ r) : ∀ (k n : Nat), n < r ^ k → (dg r n).length ≤ k
  | 0, n, h => by
    have : n = 0 := by simpa using h
    rw [this, dg_zero]
    exact Nat.le_refl _
  | k + 1, n, h => by
    by_cases z : n = 0
    · rw [z, dg_zero]
      exact Nat.zero_le _
    · rw [dg_pos hr (by omega), List.length_cons]
      have : n / r < r ^ k := by
        rw [Nat.div_lt_iff_lt_mul (by omega)]
        rw [Nat.pow_succ] at h
        exact h
      have := dg_len hr k (n / r) this
      omega
abbrev iN (ns : List Nat) : List D := iD (ns.map fun (k : Nat) => (k : Int))
theorem szl {n : Nat} (h : n ≤ 300) : n < sizeLine := by
  show n < 2 ^ 24
  omega
theorem digits_loop {r : Nat} (hr : 2 ≤ r) (hr2 : r < 2 ^ 20) : ∀ (k n : Nat) (acc : List Nat), n < r ^ k → acc.length + k ≤ 300 →
    sWhile (dTst (dBin gtI (dVar 0) (dC (.int 0)))) (sSeq (sApp 2 (dBin modI (dVar 0) (dVar 1))) (sSet 0 (dBin divI (dVar 0) (dVar 1)))) [.val (.int n), .val (.int r), .own (.lst (iN acc))] = ok (.nx [.val (.int 0), .val (.int r), .own (.lst (iN (acc ++ dg r n)))])
  | k, n, acc, h, hl => by
    by_cases z : n = 0
    · subst z
      rw [dg_zero, List.append_nil]
      refine while_end ?_
      simp only [runP, runF, runI, sSeq, sSet, sRet, sRetF, sRetN, sIf, sAsg, sPar, sPar3, sExpr, sNil, sNever, sPub, sOwn, sApp, sPut, dBin, dVar, dC, dTst, dNot, dAnd, dOr, vAnd, vOr, vNot, dIf, dTup, dLst, aNil, aCons, dCall, dCallU, dCallK, dCallI, dIsi, dOwnIx, gNm, gTp, gsNil, gsCons, iR1, iEn, iLst, dListZip, dRep, ownL, ownD, putL, putD, pubS, bd_ok', v_add, v_sub, v_lt, v_le, v_gt, v_ge, v_is0, v_is1, v_eqI, v_neI, v_isII, v_isBI, List.map_cons, List.map_nil, List.cons_append, List.nil_append, List.append_nil, List.length_cons, List.length_nil, List.replicate, List.getElem?_cons_zero, List.getElem?_cons_succ, List.set_cons_zero, List.set_cons_succ, if_true, if_false, Nat.reduceAdd, Nat.reduceSub, Nat.reduceEqDiff, Bool.false_eq_true, Bool.not_true, Bool.not_false, decide_true, decide_false, and_self, bdC_ok, bdI_ok, bdM_ok, nx_ok, exI_ok, tView, dView]
      rfl
    · cases k with
      | zero => exact absurd (by simpa using h) z
      | succ k =>
        have q : n / r < r ^ k := by
          rw [Nat.div_lt_iff_lt_mul (by omega)]
          rw [Nat.pow_succ] at h
          exact h
        have ih := digits_loop hr hr2 k (n / r) (acc ++ [n % r]) q (by rw [List.length_append]; simp; omega)
        rw [List.append_assoc, List.singleton_append, ← dg_pos hr (by omega)] at ih
        have hd : divOk (r : Int) := divOk_nat (by omega) (Nat.lt_of_lt_of_le hr2 (Nat.pow_le_pow_right (by decide) (by decide)))
        have hp : (0 : Int) < r := by omega
        have hn : (0 : Int) < n := by omega
        have hz : (iN acc).length < sizeLine := by
          rw [List.length_map, List.length_map]
          exact szl (by omega)
        have e1 : iN acc ++ [.int ((n : Int) % r)] = iN (acc ++ [n % r]) := by
          simp
        have e2 : ((n : Int) / r) = ((n / r : Nat) : Int) := rfl
        refine while_go ?_ ?_ ih
        · simp only [runP, runF, runI, sSeq, sSet, sRet, sRetF, sRetN, sIf, sAsg, sPar, sPar3, sExpr, sNil, sNever, sPub, sOwn, sApp, sPut, dBin, dVar, dC, dTst, dNot, dAnd, dOr, vAnd, vOr, vNot, dIf, dTup, dLst, aNil, aCons, dCall, dCallU, dCallK, dCallI, dIsi, dOwnIx, gNm, gTp, gsNil, gsCons, iR1, iEn, iLst, dListZip, dRep, ownL, ownD, putL, putD, pubS, bd_ok', v_add, v_sub, v_lt, v_le, v_gt, v_ge, v_is0, v_is1, v_eqI, v_neI, v_isII, v_isBI, List.map_cons, List.map_nil, List.cons_append, List.nil_append, List.append_nil, List.length_cons, List.length_nil, List.replicate, List.getElem?_cons_zero, List.getElem?_cons_succ, List.set_cons_zero, List.set_cons_succ, if_true, if_false, Nat.reduceAdd, Nat.reduceSub, Nat.reduceEqDiff, Bool.false_eq_true, Bool.not_true, Bool.not_false, decide_true, decide_false, and_self, bdC_ok, bdI_ok, bdM_ok, nx_ok, exI_ok, tView, dView, hn]
        · simp only [runP, runF, runI, sSeq, sSet, sRet, sRetF, sRetN, sIf, sAsg, sPar, sPar3, sExpr, sNil, sNever, sPub, sOwn, sApp, sPut, dBin, dVar, dC, dTst, dNot, dAnd, dOr, vAnd, vOr, vNot, dIf, dTup, dLst, aNil, aCons, dCall, dCallU, dCallK, dCallI, dIsi, dOwnIx, gNm, gTp, gsNil, gsCons, iR1, iEn, iLst, dListZip, dRep, ownL, ownD, putL, putD, pubS, bd_ok', v_add, v_sub, v_lt, v_le, v_gt, v_ge, v_is0, v_is1, v_eqI, v_neI, v_isII, v_isBI, List.map_cons, List.map_nil, List.cons_append, List.nil_append, List.append_nil, List.length_cons, List.length_nil, List.replicate, List.getElem?_cons_zero, List.getElem?_cons_succ, List.set_cons_zero, List.set_cons_succ, if_true, if_false, Nat.reduceAdd, Nat.reduceSub, Nat.reduceEqDiff, Bool.false_eq_true, Bool.not_true, Bool.not_false, decide_true, decide_false, and_self, bdC_ok, bdI_ok, bdM_ok, nx_ok, exI_ok, tView, dView, v_mod hp, v_div hd, hz, e1, e2]
theorem e_digits {r : Nat} (hr : 2 ≤ r) (hr2 : r < 2 ^ 20) (n : Nat) (h : n < r ^ 300) : f__law_digits [.int n, .int r] = ok (.lst (iN (dg r n))) := by
  have e := digits_loop hr hr2 300 n [] h (by simp)
  have e : _ = ok (Out.nx [Sl.val (D.int 0), Sl.val (D.int r), Sl.own (D.lst (iN (dg r n)))]) := e
  simp only [iN, iD, List.map_nil] at e
  have h0 : 0 ≤ sizeLine := Nat.zero_le _
  simp only [f__law_digits, b__law_digits, runP, runF, runI, sSeq, sSet, sRet, sRetF, sRetN, sIf, sAsg, sPar, sPar3, sExpr, sNil, sNever, sPub, sOwn, sApp, sPut, dBin, dVar, dC, dTst, dNot, dAnd, dOr, vAnd, vOr, vNot, dIf, dTup, dLst, aNil, aCons, dCall, dCallU, dCallK, dCallI, dIsi, dOwnIx, gNm, gTp, gsNil, gsCons, iR1, iEn, iLst, dListZip, dRep, ownL, ownD, putL, putD, pubS, bd_ok', v_add, v_sub, v_lt, v_le, v_gt, v_ge, v_is0, v_is1, v_eqI, v_neI, v_isII, v_isBI, List.map_cons, List.map_nil, List.cons_append, List.nil_append, List.append_nil, List.length_cons, List.length_nil, List.replicate, List.getElem?_cons_zero, List.getElem?_cons_succ, List.set_cons_zero, List.set_cons_succ, if_true, if_false, Nat.reduceAdd, Nat.reduceSub, Nat.reduceEqDiff, Bool.false_eq_true, Bool.not_true, Bool.not_false, decide_true, decide_false, and_self, bdC_ok, bdI_ok, bdM_ok, nx_ok, exI_ok, tView, dView, h0, e]
theorem digits_in_loop {r : Nat} (hr : 2 ≤ r) (hr2 : r < 2 ^ 20) : ∀ (k n : Nat) (acc : List Nat) (x : Sl), n < r ^ k → acc.length + k ≤ 300 →
    ∃ y, sWhile (dTst (dBin gtI (dVar 0) (dC (.int 0)))) (sSeq (sAsg (dCall divmodN (aCons (dVar 0) (aCons (dVar 1) aNil))) (gTp (gsCons (gNm 0) (gsCons (gNm 3) gsNil)))) (sApp 2 (dVar 3))) [.val (.int n), .val (.int r), .own (.lst (iN acc)), x] = ok (.nx [.val (.int 0), .val (.int r), .own (.lst (iN (acc ++ dg r n))), y])
  | k, n, acc, x, h, hl => by
    by_cases z : n = 0
    · subst z
      rw [dg_zero, List.append_nil]
      refine ⟨x, while_end ?_⟩
      simp only [runP, runF, runI, sSeq, sSet, sRet, sRetF, sRetN, sIf, sAsg, sPar, sPar3, sExpr, sNil, sNever, sPub, sOwn, sApp, sPut, dBin, dVar, dC, dTst, dNot, dAnd, dOr, vAnd, vOr, vNot, dIf, dTup, dLst, aNil, aCons, dCall, dCallU, dCallK, dCallI, dIsi, dOwnIx, gNm, gTp, gsNil, gsCons, iR1, iEn, iLst, dListZip, dRep, ownL, ownD, putL, putD, pubS, bd_ok', v_add, v_sub, v_lt, v_le, v_gt, v_ge, v_is0, v_is1, v_eqI, v_neI, v_isII, v_isBI, List.map_cons, List.map_nil, List.cons_append, List.nil_append, List.append_nil, List.length_cons, List.length_nil, List.replicate, List.getElem?_cons_zero, List.getElem?_cons_succ, List.set_cons_zero, List.set_cons_succ, if_true, if_false, Nat.reduceAdd, Nat.reduceSub, Nat.reduceEqDiff, Bool.false_eq_true, Bool.not_true, Bool.not_false, decide_true, decide_false, and_self, bdC_ok, bdI_ok, bdM_ok, nx_ok, exI_ok, tView, dView]
      rfl
    · cases k with
      | zero => exact absurd (by simpa using h) z
      | succ k =>
        have q : n / r < r ^ k := by
          rw [Nat.div_lt_iff_lt_mul (by omega)]
          rw [Nat.pow_succ] at h
          exact h
        obtain ⟨y, ih⟩ := digits_in_loop hr hr2 k (n / r) (acc ++ [n % r]) (.val (.int ((n : Int) % r))) q (by rw [List.length_append]; simp; omega)
        rw [List.append_assoc, List.singleton_append, ← dg_pos hr (by omega)] at ih
        have hp : divOk (r : Int) := divOk_nat (by omega) (Nat.lt_of_lt_of_le hr2 (Nat.pow_le_pow_right (by decide) (by decide)))
        have hn : (0 : Int) < n := by omega
        have hz : (iN acc).length < sizeLine := by
          rw [List.length_map, List.length_map]
          exact szl (by omega)
        have e1 : iN acc ++ [.int ((n : Int) % r)] = iN (acc ++ [n % r]) := by
          simp
        have e2 : ((n : Int) / r) = ((n / r : Nat) : Int) := rfl
        refine ⟨y, while_go ?_ ?_ ih⟩
        · simp only [runP, runF, runI, sSeq, sSet, sRet, sRetF, sRetN, sIf, sAsg, sPar, sPar3, sExpr, sNil, sNever, sPub, sOwn, sApp, sPut, dBin, dVar, dC, dTst, dNot, dAnd, dOr, vAnd, vOr, vNot, dIf, dTup, dLst, aNil, aCons, dCall, dCallU, dCallK, dCallI, dIsi, dOwnIx, gNm, gTp, gsNil, gsCons, iR1, iEn, iLst, dListZip, dRep, ownL, ownD, putL, putD, pubS, bd_ok', v_add, v_sub, v_lt, v_le, v_gt, v_ge, v_is0, v_is1, v_eqI, v_neI, v_isII, v_isBI, List.map_cons, List.map_nil, List.cons_append, List.nil_append, List.append_nil, List.length_cons, List.length_nil, List.replicate, List.getElem?_cons_zero, List.getElem?_cons_succ, List.set_cons_zero, List.set_cons_succ, if_true, if_false, Nat.reduceAdd, Nat.reduceSub, Nat.reduceEqDiff, Bool.false_eq_true, Bool.not_true, Bool.not_false, decide_true, decide_false, and_self, bdC_ok, bdI_ok, bdM_ok, nx_ok, exI_ok, tView, dView, hn]
        · simp only [runP, runF, runI, sSeq, sSet, sRet, sRetF, sRetN, sIf, sAsg, sPar, sPar3, sExpr, sNil, sNever, sPub, sOwn, sApp, sPut, dBin, dVar, dC, dTst, dNot, dAnd, dOr, vAnd, vOr, vNot, dIf, dTup, dLst, aNil, aCons, dCall, dCallU, dCallK, dCallI, dIsi, dOwnIx, gNm, gTp, gsNil, gsCons, iR1, iEn, iLst, dListZip, dRep, ownL, ownD, putL, putD, pubS, bd_ok', v_add, v_sub, v_lt, v_le, v_gt, v_ge, v_is0, v_is1, v_eqI, v_neI, v_isII, v_isBI, List.map_cons, List.map_nil, List.cons_append, List.nil_append, List.append_nil, List.length_cons, List.length_nil, List.replicate, List.getElem?_cons_zero, List.getElem?_cons_succ, List.set_cons_zero, List.set_cons_succ, if_true, if_false, Nat.reduceAdd, Nat.reduceSub, Nat.reduceEqDiff, Bool.false_eq_true, Bool.not_true, Bool.not_false, decide_true, decide_false, and_self, bdC_ok, bdI_ok, bdM_ok, nx_ok, exI_ok, tView, dView, divmodN, hp, hz, e1, e2]
theorem e_digits_in {r : Nat} (hr : 2 ≤ r) (hr2 : r < 2 ^ 20) (n : Nat) (h : n < r ^ 300) : f_digits_in [.int n, .int r] = ok (.lst (iN (dg r n).reverse)) := by
  obtain ⟨y, e⟩ := digits_in_loop hr hr2 300 n [] .un h (by simp)
  have e : _ = ok (Out.nx [Sl.val (D.int 0), Sl.val (D.int r), Sl.own (D.lst (iN (dg r n))), y]) := e
  simp only [iN, iD, List.map_nil] at e
  have h0 : 0 ≤ sizeLine := Nat.zero_le _
  have er : iN (dg r n).reverse = (iN (dg r n)).reverse := by simp
  rw [er]
  simp only [f_digits_in, b_digits_in, dRev, runP, runF, runI, sSeq, sSet, sRet, sRetF, sRetN, sIf, sAsg, sPar, sPar3, sExpr, sNil, sNever, sPub, sOwn, sApp, sPut, dBin, dVar, dC, dTst, dNot, dAnd, dOr, vAnd, vOr, vNot, dIf, dTup, dLst, aNil, aCons, dCall, dCallU, dCallK, dCallI, dIsi, dOwnIx, gNm, gTp, gsNil, gsCons, iR1, iEn, iLst, dListZip, dRep, ownL, ownD, putL, putD, pubS, bd_ok', v_add, v_sub, v_lt, v_le, v_gt, v_ge, v_is0, v_is1, v_eqI, v_neI, v_isII, v_isBI, List.map_cons, List.map_nil, List.cons_append, List.nil_append, List.append_nil, List.length_cons, List.length_nil, List.replicate, List.getElem?_cons_zero, List.getElem?_cons_succ, List.set_cons_zero, List.set_cons_succ, if_true, if_false, Nat.reduceAdd, Nat.reduceSub, Nat.reduceEqDiff, Bool.false_eq_true, Bool.not_true, Bool.not_false, decide_true, decide_false, and_self, bdC_ok, bdI_ok, bdM_ok, nx_ok, exI_ok, tView, dView, h0, e]
theorem mem_iN {k : Nat} {ns : List Nat} : ((k : Int) ∈ ns.map fun (j : Nat) => (j : Int)) ↔ k ∈ ns := by
  rw [List.mem_map]
  exact ⟨fun ⟨a, h, e⟩ => by rwa [← Int.ofNat_inj.mp e], fun h => ⟨k, h, rfl⟩⟩
def vr (r : Nat) (ds : List Nat) : Nat := ds.foldr (fun d f => f * r + d) 0
theorem nb_loop (a : Sl) (r : Nat) (hr : r < 2 ^ 20) : ∀ (ds : List Nat) (acc : Nat) (x : Sl), ∃ y, forL (gNm 3) (sSet 2 (dBin addI (dBin mulI (dVar 2) (dVar 1)) (dVar 3))) (iN ds) [a, .val (.int r), .val (.int acc), x] = ok (.nx [a, .val (.int r), .val (.int (ds.foldl (fun f d => f * r + d) acc : Nat)), y])
  | [], acc, x => ⟨x, rfl⟩
  | d :: ds, acc, x => by
    obtain ⟨y, e⟩ := nb_loop a r hr ds (acc * r + d) (.val (.int d))
    have m := fun i : Int => v_mulR (i := i) (j := (r : Int)) (by omega) (by omega)
    have ez : ((acc * r + d : Nat) : Int) = (acc : Int) * r + d := by simp
    refine ⟨y, Eq.trans (forL_cons (s1 := [a, .val (.int r), .val (.int acc), .val (.int d)]) rfl ?_) e⟩
    rw [ez]
    simp only [runP, runF, runI, sSeq, sSet, sRet, sRetF, sRetN, sIf, sAsg, sPar, sPar3, sExpr, sNil, sNever, sPub, sOwn, sApp, sPut, dBin, dVar, dC, dTst, dNot, dAnd, dOr, vAnd, vOr, vNot, dIf, dTup, dLst, aNil, aCons, dCall, dCallU, dCallK, dCallI, dIsi, dOwnIx, gNm, gTp, gsNil, gsCons, iR1, iEn, iLst, dListZip, dRep, ownL, ownD, putL, putD, pubS, bd_ok', v_add, v_sub, v_lt, v_le, v_gt, v_ge, v_is0, v_is1, v_eqI, v_neI, v_isII, v_isBI, List.map_cons, List.map_nil, List.cons_append, List.nil_append, List.append_nil, List.length_cons, List.length_nil, List.replicate, List.getElem?_cons_zero, List.getElem?_cons_succ, List.set_cons_zero, List.set_cons_succ, if_true, if_false, Nat.reduceAdd, Nat.reduceSub, Nat.reduceEqDiff, Bool.false_eq_true, Bool.not_true, Bool.not_false, decide_true, decide_false, and_self, bdC_ok, bdI_ok, bdM_ok, nx_ok, exI_ok, tView, dView, m]
theorem e_number_of (r : Nat) (hr : r < 2 ^ 20) (ds : List Nat) : f_number_of [.lst (iN ds.reverse), .int r] = ok (.int (vr r ds)) := by
  obtain ⟨y, e⟩ := nb_loop (.val (.lst (iN ds.reverse))) r hr ds.reverse 0 .un
  rw [List.foldl_reverse] at e
  have e : forL _ _ _ [.val (.lst (iN ds.reverse)), .val (.int r), .val (.int 0), .un] = ok (.nx [.val (.lst (iN ds.reverse)), .val (.int r), .val (.int (vr r ds)), y]) := e
  simp only [f_number_of, b_number_of, sFor, runP, runF, runI, sSeq, sSet, sRet, sRetF, sRetN, sIf, sAsg, sPar, sPar3, sExpr, sNil, sNever, sPub, sOwn, sApp, sPut, dBin, dVar, dC, dTst, dNot, dAnd, dOr, vAnd, vOr, vNot, dIf, dTup, dLst, aNil, aCons, dCall, dCallU, dCallK, dCallI, dIsi, dOwnIx, gNm, gTp, gsNil, gsCons, iR1, iEn, iLst, dListZip, dRep, ownL, ownD, putL, putD, pubS, bd_ok', v_add, v_sub, v_lt, v_le, v_gt, v_ge, v_is0, v_is1, v_eqI, v_neI, v_isII, v_isBI, List.map_cons, List.map_nil, List.cons_append, List.nil_append, List.append_nil, List.length_cons, List.length_nil, List.replicate, List.getElem?_cons_zero, List.getElem?_cons_succ, List.set_cons_zero, List.set_cons_succ, if_true, if_false, Nat.reduceAdd, Nat.reduceSub, Nat.reduceEqDiff, Bool.false_eq_true, Bool.not_true, Bool.not_false, decide_true, decide_false, and_self, bdC_ok, bdI_ok, bdM_ok, nx_ok, exI_ok, tView, dView, e]
def Bm (n : Nat) : Nat := if h : n = 0 then 0 else 3 * Bm (n / 2) + n % 2
termination_by n
decreasing_by omega
theorem Bm_zero : Bm 0 = 0 := by
  rw [Bm, dif_pos rfl]
theorem Bm_rec (n : Nat) : Bm n = 3 * Bm (n / 2) + n % 2 := by
  by_cases z : n = 0
  · subst z
    rw [Bm_zero]
  · rw [Bm, dif_neg z]
theorem vr_dg (n : Nat) : vr 3 (dg 2 n) = Bm n := by
  induction n using Nat.strongRecOn with | _ n ih =>
    by_cases z : n = 0
    · subst z
      rw [dg_zero, Bm_zero]
      rfl
    · rw [dg_pos (by decide) (by omega), Bm_rec]
      show vr 3 (dg 2 (n / 2)) * 3 + n % 2 = _
      rw [ih (n / 2) (by omega)]
      omega
theorem e_member_at (n : Nat) (h : n < 2 ^ 300) : f_member_at [.int n] = ok (.int (Bm n)) := by
  have e1 : f_digits_in [.int n, .int 2] = _ := e_digits_in (r := 2) (by decide) (by decide) n h
  have e2 : f_number_of [.lst (iN (dg 2 n).reverse), .int 3] = _ := e_number_of 3 (by decide) (dg 2 n)
  rw [vr_dg] at e2
  simp only [f_member_at, b_member_at, runP, runF, runI, sSeq, sSet, sRet, sRetF, sRetN, sIf, sAsg, sPar, sPar3, sExpr, sNil, sNever, sPub, sOwn, sApp, sPut, dBin, dVar, dC, dTst, dNot, dAnd, dOr, vAnd, vOr, vNot, dIf, dTup, dLst, aNil, aCons, dCall, dCallU, dCallK, dCallI, dIsi, dOwnIx, gNm, gTp, gsNil, gsCons, iR1, iEn, iLst, dListZip, dRep, ownL, ownD, putL, putD, pubS, bd_ok', v_add, v_sub, v_lt, v_le, v_gt, v_ge, v_is0, v_is1, v_eqI, v_neI, v_isII, v_isBI, List.map_cons, List.map_nil, List.cons_append, List.nil_append, List.append_nil, List.length_cons, List.length_nil, List.replicate, List.getElem?_cons_zero, List.getElem?_cons_succ, List.set_cons_zero, List.set_cons_succ, if_true, if_false, Nat.reduceAdd, Nat.reduceSub, Nat.reduceEqDiff, Bool.false_eq_true, Bool.not_true, Bool.not_false, decide_true, decide_false, and_self, bdC_ok, bdI_ok, bdM_ok, nx_ok, exI_ok, tView, dView, e1, e2]
theorem e_member (n : Nat) (h : n < 2 ^ 300) : f_base_member [.int n] = ok (.int (Bm n)) := by
  have e1 := e_check n (by omega)
  have e2 := e_member_at n h
  simp only [f_base_member, b_base_member, runP, runF, runI, sSeq, sSet, sRet, sRetF, sRetN, sIf, sAsg, sPar, sPar3, sExpr, sNil, sNever, sPub, sOwn, sApp, sPut, dBin, dVar, dC, dTst, dNot, dAnd, dOr, vAnd, vOr, vNot, dIf, dTup, dLst, aNil, aCons, dCall, dCallU, dCallK, dCallI, dIsi, dOwnIx, gNm, gTp, gsNil, gsCons, iR1, iEn, iLst, dListZip, dRep, ownL, ownD, putL, putD, pubS, bd_ok', v_add, v_sub, v_lt, v_le, v_gt, v_ge, v_is0, v_is1, v_eqI, v_neI, v_isII, v_isBI, List.map_cons, List.map_nil, List.cons_append, List.nil_append, List.append_nil, List.length_cons, List.length_nil, List.replicate, List.getElem?_cons_zero, List.getElem?_cons_succ, List.set_cons_zero, List.set_cons_succ, if_true, if_false, Nat.reduceAdd, Nat.reduceSub, Nat.reduceEqDiff, Bool.false_eq_true, Bool.not_true, Bool.not_false, decide_true, decide_false, and_self, bdC_ok, bdI_ok, bdM_ok, nx_ok, exI_ok, tView, dView, e1, e2]
def v2 (n : Nat) : Nat := if h : n = 0 ∨ n % 2 = 1 then 0 else v2 (n / 2) + 1
termination_by n
decreasing_by omega
theorem v2_odd {n : Nat} (h : n % 2 = 1) : v2 n = 0 := by
  rw [v2, dif_pos (.inr h)]
theorem v2_even {n : Nat} (h0 : n ≠ 0) (h : n % 2 = 0) : v2 n = v2 (n / 2) + 1 := by
  rw [v2, dif_neg (by omega)]
def due (n : Nat) : Nat := (3 ^ v2 n + 1) / 2
theorem odd3 : ∀ k : Nat, 3 ^ k % 2 = 1
  | 0 => rfl
  | k + 1 => by
    have := odd3 k
    rw [Nat.pow_succ]
    omega
theorem Bm_gap (n : Nat) (h : 0 < n) : Bm n = Bm (n - 1) + due n := by
  induction n using Nat.strongRecOn with | _ n ih =>
    rcases Nat.mod_two_eq_zero_or_one n with c | c
    · have i2 := ih (n / 2) (by omega) (by omega)
      unfold due at i2 ⊢
      rw [v2_even (by omega) c, Nat.pow_succ]
      have o := odd3 (v2 (n / 2))
      rw [Bm_rec n, Bm_rec (n - 1)]
      have e1 : (n - 1) / 2 = n / 2 - 1 := by omega
      rw [e1]
      omega
    · unfold due
      rw [v2_odd c, Bm_rec n, Bm_rec (n - 1)]
      have e1 : (n - 1) / 2 = n / 2 := by omega
      rw [e1]
      omega
theorem Bm_lt (n : Nat) : Bm n < Bm (n + 1) := by
  have h := Bm_gap (n + 1) (by omega)
  rw [Nat.add_sub_cancel] at h
  have o := odd3 (v2 (n + 1))
  unfold due at h
  generalize 3 ^ v2 (n + 1) = t at *
  omega
theorem Bm_lt3 : ∀ k n : Nat, n < 2 ^ k → Bm n < 3 ^ k
  | 0, n, h => by
    have : n = 0 := by omega
    subst this
    rw [Bm_zero]
    decide
  | k + 1, n, h => by
    rw [Nat.pow_succ] at h ⊢
    have := Bm_lt3 k (n / 2) (by omega)
    rw [Bm_rec]
    omega
theorem dg_mem (r : Nat) (hr : 2 ≤ r) (n : Nat) : ∀ d ∈ dg r n, d < r := by
  induction n using Nat.strongRecOn with | _ n ih =>
    intro d hd
    by_cases z : n = 0
    · rw [z, dg_zero] at hd
      cases hd
    · rw [dg_pos hr (by omega), List.mem_cons] at hd
      rcases hd with h | h
      · rw [h]
        exact Nat.mod_lt _ (by omega)
      · exact ih (n / r) (Nat.div_lt_self (by omega) (by omega)) d h
theorem dg_Bm (n : Nat) : dg 3 (Bm n) = dg 2 n := by
  induction n using Nat.strongRecOn with | _ n ih =>
    by_cases z : n = 0
    · rw [z, Bm_zero, dg_zero, dg_zero]
    · have pos : 0 < Bm n := by
        have := Bm_gap n (by omega)
        have o := odd3 (v2 n)
        unfold due at this
        generalize 3 ^ v2 n = t at *
        omega
      have r := Bm_rec n
      rw [dg_pos (n := Bm n) (by decide) pos, dg_pos (n := n) (by decide) (by omega)]
      have e1 : Bm n % 3 = n % 2 := by omega
      have e2 : Bm n / 3 = Bm (n / 2) := by omega
      rw [e1, e2, ih (n / 2) (by omega)]
theorem cut_iD (ns : List Int) (lo hi : Option Int) : ∃ ms : List Int, cutD (iD ns) lo hi = iD ms ∧ ms.length ≤ ns.length := by
  refine ⟨(ns.drop (HT.sIx ns.length 0 lo)).take (HT.sIx ns.length ns.length hi - HT.sIx ns.length 0 lo), ?_, ?_⟩
  · unfold cutD iD
    rw [List.length_map, List.map_take, List.map_drop]
  · rw [List.length_take, List.length_drop]
    omega
theorem enum_at : ∀ (ds : List D) (k i : Nat) (d : D), (enumD k ds)[i]? = some d → ∃ e, ds[i]? = some e ∧ d = .tup [.int ((k + i : Nat) : Int), e]
  | [], k, i, d, h => by simp [enumD] at h
  | e :: es, k, 0, d, h => by
    cases h
    exact ⟨e, rfl, rfl⟩
  | e :: es, k, i + 1, d, h => by
    obtain ⟨e', h1, h2⟩ := enum_at es (k + 1) i d (by simpa [enumD] using h)
    exact ⟨e', by simpa using h1, by rw [h2, show k + 1 + i = k + (i + 1) by omega]⟩
theorem enum_len : ∀ (ds : List D) (k : Nat), (enumD k ds).length = ds.length
  | [], _ => rfl
  | _ :: ds, k => by
    rw [enumD, List.length_cons, enum_len ds (k + 1)]
    rfl
theorem rangeD_iN (n : Nat) : rangeD 0 n = iN (List.range n) := by
  unfold rangeD iN iD
  rw [List.map_map]
  congr 1
  funext k
  simp
theorem comp_all (v : Nat) (fe : S → M (D × S)) (h : Nat → Nat) (s0 : S) (hs : ∀ x, (s0.set v x).set v .un = s0) : ∀ ns : List Nat, (∀ k ∈ ns, fe (s0.set v (.val (.int k))) = ok (.int (h k), s0.set v (.val (.int k)))) → compL [v] (gNm v) tTrue fe (iN ns) s0 = ok (iN (ns.map h), s0)
  | [], _ => rfl
  | n :: ns, hf => by
    have ih := comp_all v fe h s0 hs ns fun k hk => hf k (List.mem_cons_of_mem _ hk)
    have e := hf n (List.mem_cons_self ..)
    show bd (ok (s0.set v (.val (.int n)))) _ = _
    rw [bd_ok']
    show bd (fe (s0.set v (.val (.int n)))) _ = _
    rw [e, bd_ok']
    show bd (compL [v] (gNm v) tTrue fe (iN ns) ((s0.set v (.val (.int n))).set v .un)) _ = _
    rw [hs, ih]
    rfl
theorem log_lt {n k : Nat} (hk : 0 < k) (h : n < 2 ^ k) : (n : Int).natAbs.log2 < k := by
  show n.log2 < k
  by_cases z : n = 0
  · rw [z]
    exact hk
  · exact (Nat.log2_lt z).mpr h
theorem show_i : ∀ ns : List Int, (∀ n ∈ ns, n.natAbs.log2 < 1920) → PyData.showableAll (ns.map PyData.int) = true ∧ PyData.leavesShortAll 1921 (ns.map PyData.int) = true ∧ PyData.weightAll (ns.map PyData.int) ≤ 2000 * ns.length
  | [], _ => ⟨rfl, rfl, Nat.le_refl _⟩
  | n :: ns, h => by
    obtain ⟨h1, h2, h5⟩ := show_i ns fun q hq => h q (List.mem_cons_of_mem _ hq)
    have h3 := h n (List.mem_cons_self ..)
    have s1 : decide ((PyData.shown (.int n)).length ≤ 1921) = true := decide_eq_true (by rw [PyData.shown]; exact PyProof.Rows.int_text_len_1921 h3)
    have w1 : PyData.weight (.int n) ≤ 1920 := by
      rw [PyData.weight]
      split <;> omega
    refine ⟨?_, ?_, ?_⟩
    · show (decide (n.natAbs.log2 < 1920) && PyData.showableAll (ns.map PyData.int)) = true
      rw [decide_eq_true h3, h1]
      rfl
    · show (decide ((PyData.shown (.int n)).length ≤ 1921) && PyData.leavesShortAll 1921 (ns.map PyData.int)) = true
      rw [s1, h2]
      rfl
    · show PyData.weight (.int n) + 1 + PyData.weightAll (ns.map PyData.int) ≤ _
      rw [List.length_cons]
      omega
theorem v_reprI (ns : List Int) (h : ∀ n ∈ ns, n.natAbs.log2 < 1920) (hl : ns.length ≤ 2) : reprN [.lst (iD ns)] = ok (.str (D.py (.lst (iD ns))).shown) := by
  obtain ⟨h1, h2, h3⟩ := show_i ns h
  have h4 := depth_i ns
  have h5 := PyData.shown_le 1921 (by decide) (.list (ns.map PyData.int)) h2
  rw [PyData.weight] at h5
  have h6 : (1921 + 2) * PyData.weightAll (ns.map PyData.int) ≤ 1923 * 4000 := Nat.mul_le_mul (by omega) (by omega)
  unfold reprN
  dsimp only
  rw [if_pos]
  rw [D.py, pys_i]
  refine ⟨plains_i ns, h1, ?_, ?_⟩
  · rw [PyData.depth, h4]
    decide
  · show _ ≤ 2 ^ 24
    omega
theorem repr2 {a : Nat} (h : a < 2 ^ 1000) : reprN [.lst [.int a, .int a]] = ok (.str (D.py (.lst (iD [(a : Int), (a : Int)]))).shown) := by
  refine v_reprI [(a : Int), (a : Int)] (fun n hn => ?_) (Nat.le_refl 2)
  have : n = (a : Int) := by simpa using hn
  rw [this]
  exact log_lt (by decide) (Nat.lt_of_lt_of_le h (Nat.pow_le_pow_right (by decide) (by decide)))
theorem Bm_comp : ∀ t n : Nat, n < 2 ^ t → 2 * (Bm (2 ^ t - 1 - n) + Bm n) + 1 = 3 ^ t
  | 0, n, h => by
    have : n = 0 := by omega
    subst this
    show 2 * (Bm 0 + Bm 0) + 1 = 1
    rw [Bm_zero]
  | t + 1, n, h => by
    rw [Nat.pow_succ] at h
    have ih := Bm_comp t (n / 2) (by omega)
    rw [Bm_rec (2 ^ (t + 1) - 1 - n), Bm_rec n]
    have e1 : (2 ^ (t + 1) - 1 - n) / 2 = 2 ^ t - 1 - n / 2 := by
      rw [Nat.pow_succ]
      omega
    have e2 : (2 ^ (t + 1) - 1 - n) % 2 + n % 2 = 1 := by
      rw [Nat.pow_succ]
      omega
    rw [e1, Nat.pow_succ]
    omega
theorem mulN {a b : Nat} (ha : a < 2 ^ 4000) (hb : b < 2 ^ 4000) : mulI (.int a) (.int b) = ok (.int (a * b : Nat)) := by
  have l : ∀ {n : Nat}, n < 2 ^ 4000 → (n : Int).natAbs.log2 < 4000 := fun {n} h => log_lt (Nat.succ_pos _) h
  have h1 := l ha
  have h2 := l hb
  have h3 : (a : Int).natAbs.log2 + (b : Int).natAbs.log2 < 1000000 := Nat.lt_of_lt_of_le (Nat.add_lt_add h1 h2) (by decide)
  have e : ((a * b : Nat) : Int) = (a : Int) * b := by simp
  rw [e]
  generalize (a : Int) = x at *
  generalize (b : Int) = y at *
  exact if_pos (.inr (.inr h3))
theorem cut_iN (ns : List Nat) (k : Nat) : cutD (iN ns) none (some (k : Int)) = iN (ns.take k) := by
  unfold cutD
  rw [HT.sIx_none, HT.sIx_nat]
  rw [List.length_map, List.length_map, List.drop_zero, Nat.sub_zero, ← List.map_take, ← List.map_take]
  congr 2
  rw [← List.take_eq_take_min]
theorem e_read (ds : List Nat) : f__law_read [.lst (iN ds), .int 3] = ok (.int (vr 3 ds)) := by
  obtain ⟨y, e⟩ := nb_loop (.val (.lst (iN ds))) 3 (by decide) ds.reverse 0 .un
  rw [List.foldl_reverse] at e
  have e : forL _ _ _ [.val (.lst (iN ds)), .val (.int 3), .val (.int 0), .un] = ok (.nx [.val (.lst (iN ds)), .val (.int 3), .val (.int (vr 3 ds)), y]) := e
  have er : (iN ds).reverse = iN ds.reverse := by simp
  simp only [f__law_read, b__law_read, dRev, sFor, runP, runF, runI, sSeq, sSet, sRet, sRetF, sRetN, sIf, sAsg, sPar, sPar3, sExpr, sNil, sNever, sPub, sOwn, sApp, sPut, dBin, dVar, dC, dTst, dNot, dAnd, dOr, vAnd, vOr, vNot, dIf, dTup, dLst, aNil, aCons, dCall, dCallU, dCallK, dCallI, dIsi, dOwnIx, gNm, gTp, gsNil, gsCons, iR1, iEn, iLst, dListZip, dRep, ownL, ownD, putL, putD, pubS, bd_ok', v_add, v_sub, v_lt, v_le, v_gt, v_ge, v_is0, v_is1, v_eqI, v_neI, v_isII, v_isBI, List.map_cons, List.map_nil, List.cons_append, List.nil_append, List.append_nil, List.length_cons, List.length_nil, List.replicate, List.getElem?_cons_zero, List.getElem?_cons_succ, List.set_cons_zero, List.set_cons_succ, if_true, if_false, Nat.reduceAdd, Nat.reduceSub, Nat.reduceEqDiff, Bool.false_eq_true, Bool.not_true, Bool.not_false, decide_true, decide_false, and_self, bdC_ok, bdI_ok, bdM_ok, nx_ok, exI_ok, tView, dView, er, e]
/-- no digit 2 -/
def pl (n : Nat) : Prop := 2 ∉ dg 3 n
theorem pl_zero : pl 0 := by
  unfold pl
  rw [dg_zero]
  simp
theorem pl_iff (n : Nat) : pl n ↔ n % 3 ≠ 2 ∧ pl (n / 3) := by
  by_cases z : n = 0
  · subst z
    exact ⟨fun h => ⟨by decide, h⟩, fun h => h.2⟩
  · unfold pl
    rw [dg_pos (by decide) (by omega), List.mem_cons, not_or]
    exact ⟨fun h => ⟨fun e => h.1 e.symm, h.2⟩, fun h => ⟨fun e => h.1 e.symm, h.2⟩⟩
theorem Bm_mono {a b : Nat} (h : a ≤ b) : Bm a ≤ Bm b := by
  induction b with
  | zero =>
    have : a = 0 := by omega
    rw [this]
    exact Nat.le_refl _
  | succ b ih =>
    by_cases c : a = b + 1
    · rw [c]
      exact Nat.le_refl _
    · exact Nat.le_trans (ih (by omega)) (Nat.le_of_lt (Bm_lt b))
theorem Bm_strict {a b : Nat} (h : a < b) : Bm a < Bm b := Nat.lt_of_lt_of_le (Bm_lt a) (Bm_mono h)
theorem Bm_inj {a b : Nat} (h : Bm a = Bm b) : a = b := by
  rcases Nat.lt_trichotomy a b with c | c | c
  · have := Bm_strict c
    omega
  · exact c
  · have := Bm_strict c
    omega
theorem Bm_le_iff {a b : Nat} : Bm a ≤ Bm b ↔ a ≤ b := ⟨fun h => by
  (rcases Nat.lt_or_ge b a with c | c)
  · have := Bm_strict c
    omega
  · exact c, Bm_mono⟩
theorem Bm_ge (n : Nat) : n ≤ Bm n := by
  induction n with
  | zero => exact Nat.zero_le _
  | succ n ih =>
    have := Bm_lt n
    omega
/-- digits that are 0 or 1 -/
theorem vr_Bm : ∀ ds : List Nat, (∀ d ∈ ds, d < 2) → Bm (vr 2 ds) = vr 3 ds
  | [], _ => by
    show Bm 0 = 0
    rw [Bm_zero]
  | d :: ds, h => by
    have ih := vr_Bm ds fun e he => h e (List.mem_cons_of_mem _ he)
    have hd := h d (List.mem_cons_self ..)
    show Bm (vr 2 ds * 2 + d) = vr 3 ds * 3 + d
    rw [Bm_rec, show (vr 2 ds * 2 + d) / 2 = vr 2 ds by omega, show (vr 2 ds * 2 + d) % 2 = d by omega, ih]
    omega
theorem vr_dgr (r : Nat) (hr : 2 ≤ r) (n : Nat) : vr r (dg r n) = n := by
  induction n using Nat.strongRecOn with | _ n ih =>
    by_cases z : n = 0
    · subst z
      rw [dg_zero]
      rfl
    · rw [dg_pos hr (by omega)]
      show vr r (dg r (n / r)) * r + n % r = n
      rw [ih (n / r) (Nat.div_lt_self (by omega) (by omega))]
      have := Nat.div_add_mod n r
      rw [Nat.mul_comm]
      exact this
theorem pl_digits {n : Nat} (h : pl n) : ∀ d ∈ dg 3 n, d < 2 := fun d hd => by
  have h1 := dg_mem 3 (by decide) n d hd
  have h2 : d ≠ 2 := fun z => h (by rw [← z]; exact hd)
  omega
theorem pl_Bm {n : Nat} (h : pl n) : Bm (vr 2 (dg 3 n)) = n := by
  rw [vr_Bm _ (pl_digits h), vr_dgr 3 (by decide)]
theorem Bm_pl (k : Nat) : pl (Bm k) := by
  intro z
  rw [dg_Bm] at z
  exact absurd (dg_mem 2 (by decide) k 2 z) (by decide)
theorem pl_of {n : Nat} : pl n ↔ ∃ k, n = Bm k := ⟨fun h => ⟨_, (pl_Bm h).symm⟩, fun ⟨k, e⟩ => e ▸ Bm_pl k⟩
theorem pl_cast (n : Nat) : (2 : Int) ∈ ((dg 3 n).reverse.map fun (j : Nat) => (j : Int)) ↔ ¬ pl n := by
  unfold pl
  rw [Classical.not_not, ← List.mem_reverse (as := dg 3 n)]
  exact mem_iN (k := 2)
instance (n : Nat) : Decidable (pl n) := by
  unfold pl
  infer_instance
theorem e_in_base (n : Nat) (h : n < 3 ^ 300) : f_in_base [.int n] = ok (.bl (decide (pl n))) := by
  have e1 := e_check n (by omega)
  have e2 : f_digits_in [.int n, .int 3] = _ := e_digits_in (r := 3) (by decide) (by decide) n h
  have e4 := v_ninL 2 ((dg 3 n).reverse.map fun (j : Nat) => (j : Int))
  have e3 := pl_cast n
  by_cases c : pl n
  · have c2 : ¬ (2 : Int) ∈ ((dg 3 n).reverse.map fun (j : Nat) => (j : Int)) := fun z => e3.mp z c
    simp only [f_in_base, b_in_base, f_are_plain, b_are_plain, runP, runF, runI, sSeq, sSet, sRet, sRetF, sRetN, sIf, sAsg, sPar, sPar3, sExpr, sNil, sNever, sPub, sOwn, sApp, sPut, dBin, dVar, dC, dTst, dNot, dAnd, dOr, vAnd, vOr, vNot, dIf, dTup, dLst, aNil, aCons, dCall, dCallU, dCallK, dCallI, dIsi, dOwnIx, gNm, gTp, gsNil, gsCons, iR1, iEn, iLst, dListZip, dRep, ownL, ownD, putL, putD, pubS, bd_ok', v_add, v_sub, v_lt, v_le, v_gt, v_ge, v_is0, v_is1, v_eqI, v_neI, v_isII, v_isBI, List.map_cons, List.map_nil, List.cons_append, List.nil_append, List.append_nil, List.length_cons, List.length_nil, List.replicate, List.getElem?_cons_zero, List.getElem?_cons_succ, List.set_cons_zero, List.set_cons_succ, if_true, if_false, Nat.reduceAdd, Nat.reduceSub, Nat.reduceEqDiff, Bool.false_eq_true, Bool.not_true, Bool.not_false, decide_true, decide_false, and_self, bdC_ok, bdI_ok, bdM_ok, nx_ok, exI_ok, tView, dView, e1, e2, e4, c2, c]
  · have c2 : (2 : Int) ∈ ((dg 3 n).reverse.map fun (j : Nat) => (j : Int)) := e3.mpr c
    simp only [f_in_base, b_in_base, f_are_plain, b_are_plain, runP, runF, runI, sSeq, sSet, sRet, sRetF, sRetN, sIf, sAsg, sPar, sPar3, sExpr, sNil, sNever, sPub, sOwn, sApp, sPut, dBin, dVar, dC, dTst, dNot, dAnd, dOr, vAnd, vOr, vNot, dIf, dTup, dLst, aNil, aCons, dCall, dCallU, dCallK, dCallI, dIsi, dOwnIx, gNm, gTp, gsNil, gsCons, iR1, iEn, iLst, dListZip, dRep, ownL, ownD, putL, putD, pubS, bd_ok', v_add, v_sub, v_lt, v_le, v_gt, v_ge, v_is0, v_is1, v_eqI, v_neI, v_isII, v_isBI, List.map_cons, List.map_nil, List.cons_append, List.nil_append, List.append_nil, List.length_cons, List.length_nil, List.replicate, List.getElem?_cons_zero, List.getElem?_cons_succ, List.set_cons_zero, List.set_cons_succ, if_true, if_false, Nat.reduceAdd, Nat.reduceSub, Nat.reduceEqDiff, Bool.false_eq_true, Bool.not_true, Bool.not_false, decide_true, decide_false, and_self, bdC_ok, bdI_ok, bdM_ok, nx_ok, exI_ok, tView, dView, e1, e2, e4, c2, c]
theorem e_in_baseB (k : Nat) (h : Bm k < 3 ^ 300) : f_in_base [.int (Bm k)] = ok (.bl true) := by
  rw [e_in_base _ h, decide_eq_true (Bm_pl k)]
theorem e_power2 (k : Nat) (hk : k ≤ 2000) : f_power_of [.int 2, .int k] = ok (.int (2 ^ k : Nat)) := by
  have hr : rngOk (k : Int) := ⟨by omega, by omega⟩
  have len : (rangeD 0 (k : Int).toNat).length = k := rangeD_len _ _
  have m2 := fun i : Int => v_mulR (i := i) (show -(2 ^ 64) < (2 : Int) by decide) (show (2 : Int) < 2 ^ 64 by decide)
  obtain ⟨s', eL, x, es⟩ := forL_inv (T := gNm 3) (F := sSet 2 (dBin mulI (dVar 2) (dVar 0))) (fun i s => ∃ x : Sl, s = [.val (.int 2), .val (.int k), .val (.int ((2 ^ i : Nat) : Int)), x]) (rangeD 0 (k : Int).toNat) 0 [.val (.int 2), .val (.int k), .val (.int 1), .un] ⟨.un, rfl⟩ (by
    rintro i d s hi ⟨x, rfl⟩
    rw [Nat.zero_add]
    refine ⟨[.val (.int 2), .val (.int k), .val (.int ((2 ^ i : Nat) : Int)), .val d], _, rfl, ?_, .val d, rfl⟩
    have e3 : ((2 ^ (i + 1) : Nat) : Int) = ((2 ^ i : Nat) : Int) * 2 := by
      rw [Nat.pow_succ]
      omega
    simp only [runP, runF, runI, sSeq, sSet, sRet, sRetF, sRetN, sIf, sAsg, sPar, sPar3, sExpr, sNil, sNever, sPub, sOwn, sApp, sPut, dBin, dVar, dC, dTst, dNot, dAnd, dOr, vAnd, vOr, vNot, dIf, dTup, dLst, aNil, aCons, dCall, dCallU, dCallK, dCallI, dIsi, dOwnIx, gNm, gTp, gsNil, gsCons, iR1, iEn, iLst, dListZip, dRep, ownL, ownD, putL, putD, pubS, bd_ok', v_add, v_sub, v_lt, v_le, v_gt, v_ge, v_is0, v_is1, v_eqI, v_neI, v_isII, v_isBI, List.map_cons, List.map_nil, List.cons_append, List.nil_append, List.append_nil, List.length_cons, List.length_nil, List.replicate, List.getElem?_cons_zero, List.getElem?_cons_succ, List.set_cons_zero, List.set_cons_succ, if_true, if_false, Nat.reduceAdd, Nat.reduceSub, Nat.reduceEqDiff, Bool.false_eq_true, Bool.not_true, Bool.not_false, decide_true, decide_false, and_self, bdC_ok, bdI_ok, bdM_ok, nx_ok, exI_ok, tView, dView, m2, e3])
  rw [len, Nat.zero_add] at es
  subst es
  simp only [f_power_of, b_power_of, sFor, runP, runF, runI, sSeq, sSet, sRet, sRetF, sRetN, sIf, sAsg, sPar, sPar3, sExpr, sNil, sNever, sPub, sOwn, sApp, sPut, dBin, dVar, dC, dTst, dNot, dAnd, dOr, vAnd, vOr, vNot, dIf, dTup, dLst, aNil, aCons, dCall, dCallU, dCallK, dCallI, dIsi, dOwnIx, gNm, gTp, gsNil, gsCons, iR1, iEn, iLst, dListZip, dRep, ownL, ownD, putL, putD, pubS, bd_ok', v_add, v_sub, v_lt, v_le, v_gt, v_ge, v_is0, v_is1, v_eqI, v_neI, v_isII, v_isBI, List.map_cons, List.map_nil, List.cons_append, List.nil_append, List.append_nil, List.length_cons, List.length_nil, List.replicate, List.getElem?_cons_zero, List.getElem?_cons_succ, List.set_cons_zero, List.set_cons_succ, if_true, if_false, Nat.reduceAdd, Nat.reduceSub, Nat.reduceEqDiff, Bool.false_eq_true, Bool.not_true, Bool.not_false, decide_true, decide_false, and_self, bdC_ok, bdI_ok, bdM_ok, nx_ok, exI_ok, tView, dView, hr, eL]
theorem Bm_split : ∀ m a b : Nat, b < 2 ^ m → Bm (a * 2 ^ m + b) = 3 ^ m * Bm a + Bm b
  | 0, a, b, h => by
    have : b = 0 := by simpa using h
    subst this
    rw [Bm_zero]
    simp
  | m + 1, a, b, h => by
    rw [Nat.pow_succ] at h
    rw [Bm_rec (a * 2 ^ (m + 1) + b), Bm_rec b]
    have e1 : (a * 2 ^ (m + 1) + b) / 2 = a * 2 ^ m + b / 2 := by
      rw [Nat.pow_succ, ← Nat.mul_assoc]
      omega
    have e2 : (a * 2 ^ (m + 1) + b) % 2 = b % 2 := by
      rw [Nat.pow_succ, ← Nat.mul_assoc]
      omega
    rw [e1, e2, Bm_split m a (b / 2) (by omega), Nat.pow_succ, Nat.mul_add, ← Nat.mul_assoc, Nat.mul_comm 3 (3 ^ m)]
    omega
theorem Bm_pow (m : Nat) : Bm (2 ^ m) = 3 ^ m := by
  have h := Bm_split m 1 0 (Nat.pow_pos (by decide))
  have e1 : Bm 1 = 1 := by rw [Bm_rec, Bm_zero]
  rw [e1, Bm_zero] at h
  simpa using h
theorem vr_app (r : Nat) : ∀ as bs : List Nat, vr r (as ++ bs) = vr r as + r ^ as.length * vr r bs
  | [], bs => by simp [vr]
  | a :: as, bs => by
    show vr r (as ++ bs) * r + a = (vr r as * r + a) + r ^ (as.length + 1) * vr r bs
    rw [vr_app r as bs, Nat.pow_succ, Nat.add_mul]
    have : r ^ as.length * vr r bs * r = r ^ as.length * r * vr r bs := by
      rw [Nat.mul_assoc, Nat.mul_comm (vr r bs) r, ← Nat.mul_assoc]
    omega
theorem vr_lt3 : ∀ ds : List Nat, (∀ d ∈ ds, d < 3) → vr 3 ds < 3 ^ ds.length
  | [], _ => by decide
  | d :: ds, h => by
    have ih := vr_lt3 ds fun e he => h e (List.mem_cons_of_mem _ he)
    have hd := h d (List.mem_cons_self ..)
    show vr 3 ds * 3 + d < 3 ^ (ds.length + 1)
    rw [Nat.pow_succ]
    omega
/-- at the first 2 -/
theorem cut2 : ∀ l : List Nat, 2 ∈ l → ∃ P T : List Nat, l = P ++ 2 :: T ∧ 2 ∉ P
  | [], h => by cases h
  | d :: l, h => by
    by_cases c : d = 2
    · subst c
      exact ⟨[], l, rfl, by simp⟩
    · have h2 : 2 ∈ l := by
        (rcases List.mem_cons.mp h with e | e)
        · exact absurd e.symm c
        · exact e
      obtain ⟨P, T, rfl, hP⟩ := cut2 l h2
      exact ⟨d :: P, T, rfl, fun z => by
        rcases List.mem_cons.mp z with e | e
        · exact c e.symm
        · exact hP e⟩
theorem find2 : ∀ P T : List Nat, 2 ∉ P → (((P ++ 2 :: T).map fun (j : Nat) => (j : Int)).map PyData.int).findIdx? (fun z => PyData.eqv z (.int 2)) = some P.length
  | [], T, _ => by
    simp only [List.nil_append, List.map_cons, List.findIdx?_cons]
    rfl
  | d :: P, T, h => by
    have hd : d ≠ 2 := fun z => h (by simp [z])
    have ih := find2 P T fun z => h (List.mem_cons_of_mem _ z)
    have hf : PyData.eqv (.int (d : Int)) (.int 2) = false := by
      show ((d : Int) == 2) = false
      (exact beq_false_of_ne (by omega))
    simp only [List.cons_append, List.map_cons, List.findIdx?_cons, hf, Bool.false_eq_true, if_false, ih, List.length_cons, Option.map_some]
theorem e_idx (P T : List Nat) (h : 2 ∉ P) : idxD (.lst (iN (P ++ 2 :: T))) (.int 2) = ok (.int (P.length : Nat)) := by
  unfold idxD
  dsimp only
  rw [plains_i, pys_i, shaped_i, D.py, find2 P T h]
  rfl
theorem e_rank_any (x : Nat) (h : x < 3 ^ 250) : ∃ n : Nat, f_rank_of [.int x] = ok (.int n) ∧ x ≤ Bm n ∧ (∀ m, m < n → Bm m < x) ∧ n ≤ 2 ^ 250 := by
  have h3 : x < 3 ^ 300 := Nat.lt_of_lt_of_le h (Nat.pow_le_pow_right (by decide) (by decide))
  have bound : ∀ n : Nat, (∀ m, m < n → Bm m < x) → n ≤ 2 ^ 250 := fun n hn => by
    rcases Nat.lt_or_ge (2 ^ 250) n with c | c
    · have := hn _ c
      rw [Bm_pow] at this
      omega
    · exact c
  have e2 : f_digits_in [.int x, .int 3] = _ := e_digits_in (r := 3) (by decide) (by decide) x h3
  have e4 := v_ninL 2 ((dg 3 x).reverse.map fun (j : Nat) => (j : Int))
  have ec := pl_cast x
  by_cases c : pl x
  · have c2 : ¬ (2 : Int) ∈ ((dg 3 x).reverse.map fun (j : Nat) => (j : Int)) := fun z => ec.mp z c
    have e3 : f_number_of [.lst (iN (dg 3 x).reverse), .int 2] = _ := e_number_of 2 (by decide) (dg 3 x)
    have hB := pl_Bm c
    have hlt : ∀ m, m < vr 2 (dg 3 x) → Bm m < x := fun m hm => by
      have := Bm_strict hm
      rwa [hB] at this
    refine ⟨vr 2 (dg 3 x), ?_, by omega, hlt, bound _ hlt⟩
    simp only [f_rank_of, b_rank_of, f_are_plain, b_are_plain, runP, runF, runI, sSeq, sSet, sRet, sRetF, sRetN, sIf, sAsg, sPar, sPar3, sExpr, sNil, sNever, sPub, sOwn, sApp, sPut, dBin, dVar, dC, dTst, dNot, dAnd, dOr, vAnd, vOr, vNot, dIf, dTup, dLst, aNil, aCons, dCall, dCallU, dCallK, dCallI, dIsi, dOwnIx, gNm, gTp, gsNil, gsCons, iR1, iEn, iLst, dListZip, dRep, ownL, ownD, putL, putD, pubS, bd_ok', v_add, v_sub, v_lt, v_le, v_gt, v_ge, v_is0, v_is1, v_eqI, v_neI, v_isII, v_isBI, List.map_cons, List.map_nil, List.cons_append, List.nil_append, List.append_nil, List.length_cons, List.length_nil, List.replicate, List.getElem?_cons_zero, List.getElem?_cons_succ, List.set_cons_zero, List.set_cons_succ, if_true, if_false, Nat.reduceAdd, Nat.reduceSub, Nat.reduceEqDiff, Bool.false_eq_true, Bool.not_true, Bool.not_false, decide_true, decide_false, and_self, bdC_ok, bdI_ok, bdM_ok, nx_ok, exI_ok, tView, dView, e2, e3, e4, c2]
  · have c2 : (2 : Int) ∈ ((dg 3 x).reverse.map fun (j : Nat) => (j : Int)) := ec.mpr c
    have h2 : 2 ∈ (dg 3 x).reverse := by
      rw [List.mem_reverse]
      exact Classical.not_not.mp c
    obtain ⟨P, T, eq, hP⟩ := cut2 _ h2
    have hlen := dg_len (r := 3) (by decide) 250 x h
    have hl2 : P.length + (T.length + 1) ≤ 250 := by
      have e := congrArg List.length eq
      rw [List.length_reverse, List.length_append, List.length_cons] at e
      omega
    have e6 := e_idx P T hP
    rw [← eq] at e6
    have e7 : f_number_of [.lst (iN P), .int 2] = ok (.int (vr 2 P.reverse)) := by
      have := e_number_of 2 (by decide) P.reverse
      rw [List.reverse_reverse] at this
      exact this
    have ect : cutD (iN (dg 3 x).reverse) none (some (P.length : Int)) = iN P := by
      rw [cut_iN, eq, List.take_left']
      rfl
    have ln : lenN [.lst (iN (dg 3 x).reverse)] = ok (.int (P.length + (T.length + 1) : Nat)) := by
      unfold lenN
      dsimp only
      rw [eq, List.length_map, List.length_map, List.length_append, List.length_cons]
    have sb : ((P.length + (T.length + 1) : Nat) : Int) - (P.length : Int) = ((T.length + 1 : Nat) : Int) := by omega
    have e8 := e_power2 (T.length + 1) (by omega)
    -- reckoning
    have ex : dg 3 x = T.reverse ++ 2 :: P.reverse := by
      have e := congrArg List.reverse eq
      rw [List.reverse_reverse] at e
      rw [e]
      simp
    have hd : ∀ d ∈ dg 3 x, d < 3 := dg_mem 3 (by decide) x
    have hPd : ∀ d ∈ P.reverse, d < 2 := fun d hd2 => by
      have a := hd d (by rw [ex]; exact List.mem_append_right _ (List.mem_cons_of_mem _ hd2))
      have b : d ≠ 2 := fun z => hP (by rw [← z]; exact List.mem_reverse.mp hd2)
      omega
    have hTd : vr 3 T.reverse < 3 ^ T.reverse.length := vr_lt3 _ fun d hd2 => hd d (by rw [ex]; exact List.mem_append_left _ hd2)
    rw [List.length_reverse] at hTd
    have hx : x = vr 3 T.reverse + 3 ^ T.length * (vr 3 P.reverse * 3 + 2) := by
      have e := vr_dgr 3 (by decide) x
      rw [ex, vr_app, List.length_reverse] at e
      exact e.symm
    have hq := vr_Bm P.reverse hPd
    generalize hqq : vr 2 P.reverse = q at hq e7
    generalize vr 3 T.reverse = tt at hTd hx
    generalize vr 3 P.reverse = pp at hq hx
    generalize hm : T.length = m at *
    have p3 : 0 < 3 ^ m := Nat.pow_pos (by decide)
    have hx2 : x = tt + 2 * 3 ^ m + 3 * (3 ^ m * Bm q) := by
      rw [hx, hq, Nat.mul_add, ← Nat.mul_assoc]
      omega
    have u1 : Bm ((q + 1) * 2 ^ (m + 1)) = 3 ^ (m + 1) * Bm (q + 1) := by
      have := Bm_split (m + 1) (q + 1) 0 (Nat.pow_pos (by decide))
      rw [Bm_zero] at this
      simpa using this
    have u2 : Bm q + 1 ≤ Bm (q + 1) := Bm_lt q
    have u3 : 3 ^ (m + 1) * (Bm q + 1) ≤ 3 ^ (m + 1) * Bm (q + 1) := Nat.mul_le_mul_left _ u2
    have u4 : 3 ^ (m + 1) * (Bm q + 1) = 3 * (3 ^ m * Bm q) + 3 * 3 ^ m := by
      rw [Nat.pow_succ, Nat.mul_add, Nat.mul_one, Nat.mul_comm (3 ^ m) 3, Nat.mul_assoc]
    have two : 0 < 2 ^ (m + 1) := Nat.pow_pos (by decide)
    have w1 : Bm (q * 2 ^ (m + 1) + (2 ^ (m + 1) - 1)) = 3 ^ (m + 1) * Bm q + Bm (2 ^ (m + 1) - 1) := Bm_split (m + 1) q _ (by omega)
    have w2 := Bm_comp (m + 1) 0 two
    rw [Nat.sub_zero, Bm_zero] at w2
    have w3 : 3 ^ (m + 1) * Bm q = 3 * (3 ^ m * Bm q) := by
      rw [Nat.pow_succ, Nat.mul_comm (3 ^ m) 3, Nat.mul_assoc]
    have w4 : 3 ^ (m + 1) = 3 * 3 ^ m := by
      rw [Nat.pow_succ]
      omega
    have hlt : ∀ k, k < (q + 1) * 2 ^ (m + 1) → Bm k < x := fun k hk => by
      have hk2 : k ≤ q * 2 ^ (m + 1) + (2 ^ (m + 1) - 1) := by
        rw [Nat.add_mul, Nat.one_mul] at hk
        omega
      have := Bm_mono hk2
      omega
    refine ⟨(q + 1) * 2 ^ (m + 1), ?_, by omega, hlt, bound _ hlt⟩
    have hb := bound _ hlt
    have hq3 : q + 1 < 2 ^ 4000 := by
      have : (q + 1) * 1 ≤ (q + 1) * 2 ^ (m + 1) := Nat.mul_le_mul_left _ two
      exact Nat.lt_of_le_of_lt (by omega) (Nat.lt_of_le_of_lt hb (Nat.pow_lt_pow_right (by decide) (by decide)))
    have hm3 : 2 ^ (m + 1) < 2 ^ 4000 := Nat.pow_lt_pow_right (by decide) (by omega)
    have mu : mulI (.int ((q : Int) + 1)) (.int ((2 ^ (m + 1) : Nat) : Int)) = ok (.int (((q + 1) * 2 ^ (m + 1) : Nat) : Int)) := mulN (a := q + 1) hq3 hm3
    simp only [f_rank_of, b_rank_of, f_are_plain, b_are_plain, dIdx, dCutL, partNo, partAt, runP, runF, runI, sSeq, sSet, sRet, sRetF, sRetN, sIf, sAsg, sPar, sPar3, sExpr, sNil, sNever, sPub, sOwn, sApp, sPut, dBin, dVar, dC, dTst, dNot, dAnd, dOr, vAnd, vOr, vNot, dIf, dTup, dLst, aNil, aCons, dCall, dCallU, dCallK, dCallI, dIsi, dOwnIx, gNm, gTp, gsNil, gsCons, iR1, iEn, iLst, dListZip, dRep, ownL, ownD, putL, putD, pubS, bd_ok', v_add, v_sub, v_lt, v_le, v_gt, v_ge, v_is0, v_is1, v_eqI, v_neI, v_isII, v_isBI, List.map_cons, List.map_nil, List.cons_append, List.nil_append, List.append_nil, List.length_cons, List.length_nil, List.replicate, List.getElem?_cons_zero, List.getElem?_cons_succ, List.set_cons_zero, List.set_cons_succ, if_true, if_false, Nat.reduceAdd, Nat.reduceSub, Nat.reduceEqDiff, Bool.false_eq_true, Bool.not_true, Bool.not_false, decide_true, decide_false, and_self, bdC_ok, bdI_ok, bdM_ok, nx_ok, exI_ok, tView, dView, e2, e4, c2, e6, ect, e7, ln, sb, e8, mu]
/-- the members around a number -/
theorem e_next (g : Nat) (h : g + 1 < 3 ^ 250) : ∃ n : Nat, f_next_base [.int g] = ok (.int (Bm n)) ∧ g < Bm n ∧ (∀ m, m < n → Bm m ≤ g) ∧ n ≤ 2 ^ 250 ∧ f_rank_of [.int (g + 1 : Nat)] = ok (.int n) := by
  obtain ⟨n, h1, h2, h3, h4⟩ := e_rank_any (g + 1) h
  refine ⟨n, ?_, h2, fun m hm => by have := h3 m hm; omega, h4, h1⟩
  have e1 := e_check g (by omega)
  have e2 : f_rank_of [.int ((g : Int) + 1)] = ok (.int n) := h1
  have e3 := e_member_at n (Nat.lt_of_le_of_lt h4 (Nat.pow_lt_pow_right (by decide) (by decide)))
  simp only [f_next_base, b_next_base, runP, runF, runI, sSeq, sSet, sRet, sRetF, sRetN, sIf, sAsg, sPar, sPar3, sExpr, sNil, sNever, sPub, sOwn, sApp, sPut, dBin, dVar, dC, dTst, dNot, dAnd, dOr, vAnd, vOr, vNot, dIf, dTup, dLst, aNil, aCons, dCall, dCallU, dCallK, dCallI, dIsi, dOwnIx, gNm, gTp, gsNil, gsCons, iR1, iEn, iLst, dListZip, dRep, ownL, ownD, putL, putD, pubS, bd_ok', v_add, v_sub, v_lt, v_le, v_gt, v_ge, v_is0, v_is1, v_eqI, v_neI, v_isII, v_isBI, List.map_cons, List.map_nil, List.cons_append, List.nil_append, List.append_nil, List.length_cons, List.length_nil, List.replicate, List.getElem?_cons_zero, List.getElem?_cons_succ, List.set_cons_zero, List.set_cons_succ, if_true, if_false, Nat.reduceAdd, Nat.reduceSub, Nat.reduceEqDiff, Bool.false_eq_true, Bool.not_true, Bool.not_false, decide_true, decide_false, and_self, bdC_ok, bdI_ok, bdM_ok, nx_ok, exI_ok, tView, dView, e1, e2, e3]
theorem rank_one {x n m : Nat} (h1 : x ≤ Bm n) (h2 : ∀ k, k < n → Bm k < x) (h3 : x ≤ Bm m) (h4 : ∀ k, k < m → Bm k < x) : n = m := by
  rcases Nat.lt_trichotomy n m with c | c | c
  · have := h4 n c
    omega
  · exact c
  · have := h2 m c
    omega
theorem e_last (n : Nat) (h : Bm n + 1 < 3 ^ 250) : f_last_base [.int (Bm n)] = ok (.int (Bm n)) := by
  obtain ⟨r, h1, h2, h3, h4⟩ := e_rank_any (Bm n + 1) h
  have er : r = n + 1 := rank_one h2 h3 (Bm_lt n) fun k hk => by
    have := Bm_mono (show k ≤ n by omega)
    omega
  subst er
  have e1 := e_check (Bm n) (by omega)
  have e2 : f_rank_of [.int ((Bm n : Int) + 1)] = ok (.int ((n + 1 : Nat) : Int)) := h1
  have e3 : ((n + 1 : Nat) : Int) - 1 = (n : Int) := by omega
  have e4 := e_member_at n (Nat.lt_of_lt_of_le (show n < 2 ^ 250 by omega) (Nat.pow_le_pow_right (by decide) (by decide)))
  simp only [f_last_base, b_last_base, runP, runF, runI, sSeq, sSet, sRet, sRetF, sRetN, sIf, sAsg, sPar, sPar3, sExpr, sNil, sNever, sPub, sOwn, sApp, sPut, dBin, dVar, dC, dTst, dNot, dAnd, dOr, vAnd, vOr, vNot, dIf, dTup, dLst, aNil, aCons, dCall, dCallU, dCallK, dCallI, dIsi, dOwnIx, gNm, gTp, gsNil, gsCons, iR1, iEn, iLst, dListZip, dRep, ownL, ownD, putL, putD, pubS, bd_ok', v_add, v_sub, v_lt, v_le, v_gt, v_ge, v_is0, v_is1, v_eqI, v_neI, v_isII, v_isBI, List.map_cons, List.map_nil, List.cons_append, List.nil_append, List.append_nil, List.length_cons, List.length_nil, List.replicate, List.getElem?_cons_zero, List.getElem?_cons_succ, List.set_cons_zero, List.set_cons_succ, if_true, if_false, Nat.reduceAdd, Nat.reduceSub, Nat.reduceEqDiff, Bool.false_eq_true, Bool.not_true, Bool.not_false, decide_true, decide_false, and_self, bdC_ok, bdI_ok, bdM_ok, nx_ok, exI_ok, tView, dView, e1, e2, e3, e4]
theorem e_rankB (n : Nat) (h : Bm n < 3 ^ 250) : f_base_rank [.int (Bm n)] = ok (.int n) := by
  obtain ⟨r, h1, h2, h3, h4⟩ := e_rank_any (Bm n) h
  have er : r = n := rank_one h2 h3 (Nat.le_refl _) fun k hk => Bm_strict hk
  subst er
  have e1 := e_check (Bm r) (by omega)
  simp only [f_base_rank, b_base_rank, runP, runF, runI, sSeq, sSet, sRet, sRetF, sRetN, sIf, sAsg, sPar, sPar3, sExpr, sNil, sNever, sPub, sOwn, sApp, sPut, dBin, dVar, dC, dTst, dNot, dAnd, dOr, vAnd, vOr, vNot, dIf, dTup, dLst, aNil, aCons, dCall, dCallU, dCallK, dCallI, dIsi, dOwnIx, gNm, gTp, gsNil, gsCons, iR1, iEn, iLst, dListZip, dRep, ownL, ownD, putL, putD, pubS, bd_ok', v_add, v_sub, v_lt, v_le, v_gt, v_ge, v_is0, v_is1, v_eqI, v_neI, v_isII, v_isBI, List.map_cons, List.map_nil, List.cons_append, List.nil_append, List.append_nil, List.length_cons, List.length_nil, List.replicate, List.getElem?_cons_zero, List.getElem?_cons_succ, List.set_cons_zero, List.set_cons_succ, if_true, if_false, Nat.reduceAdd, Nat.reduceSub, Nat.reduceEqDiff, Bool.false_eq_true, Bool.not_true, Bool.not_false, decide_true, decide_false, and_self, bdC_ok, bdI_ok, bdM_ok, nx_ok, exI_ok, tView, dView, e1, h1]
theorem v_eqB (a b : Bool) : eqD (.bl a) (.bl b) = ok (.bl (a == b)) := by
  unfold eqD
  simp only [D.plain, D.py, SeqAt.shaped, Bool.and_self, if_true]
  congr
theorem bm_loop : ∀ (n k : Nat) (x : Sl), k + n < 2 ^ 300 → gWhileN (dTst (dC (.bl true))) (gSq (gYl (dCallU 1 f_member_at [] (aCons (dVar 1) aNil))) (gPl (sAugI 1 (dC (.int 1)) addI))) (n + 1) (n + 1) [x, .val (.int k)] = ok (iN ((List.range (n + 1)).map fun i => Bm (k + i)), none)
  | 0, k, x, h => by
    have e := e_member_at k (by omega)
    simp only [gWhileN, gSq, gYl, runP, runF, runI, sSeq, sSet, sRet, sRetF, sRetN, sIf, sAsg, sPar, sPar3, sExpr, sNil, sNever, sPub, sOwn, sApp, sPut, dBin, dVar, dC, dTst, dNot, dAnd, dOr, vAnd, vOr, vNot, dIf, dTup, dLst, aNil, aCons, dCall, dCallU, dCallK, dCallI, dIsi, dOwnIx, gNm, gTp, gsNil, gsCons, iR1, iEn, iLst, dListZip, dRep, ownL, ownD, putL, putD, pubS, bd_ok', v_add, v_sub, v_lt, v_le, v_gt, v_ge, v_is0, v_is1, v_eqI, v_neI, v_isII, v_isBI, List.map_cons, List.map_nil, List.cons_append, List.nil_append, List.append_nil, List.length_cons, List.length_nil, List.replicate, List.getElem?_cons_zero, List.getElem?_cons_succ, List.set_cons_zero, List.set_cons_succ, if_true, if_false, Nat.reduceAdd, Nat.reduceSub, Nat.reduceEqDiff, Bool.false_eq_true, Bool.not_true, Bool.not_false, decide_true, decide_false, and_self, bdC_ok, bdI_ok, bdM_ok, nx_ok, exI_ok, tView, dView, e]
    rfl
  | n + 1, k, x, h => by
    have e := e_member_at k (by omega)
    have ih := bm_loop n (k + 1) x (by omega)
    have ek : ((k + 1 : Nat) : Int) = (k : Int) + 1 := rfl
    rw [ek] at ih
    have c : ¬ n + 1 + 1 ≤ 1 := by omega
    rw [List.range_succ_eq_map]
    have er : iN ((0 :: (List.range (n + 1)).map Nat.succ).map fun i => Bm (k + i)) = .int (Bm k) :: iN ((List.range (n + 1)).map fun i => Bm (k + 1 + i)) := by
      rw [List.map_cons, List.map_map]
      show D.int (Bm (k + 0)) :: _ = _
      rw [Nat.add_zero]
      congr 2
      refine congrArg (List.map _) (List.map_congr_left fun i _ => ?_)
      show Bm (k + (i + 1)) = Bm (k + 1 + i)
      rw [show k + (i + 1) = k + 1 + i by omega]
    rw [er, gWhileN]
    simp only [gSq, gYl, gPl, sAugI, runP, runF, runI, sSeq, sSet, sRet, sRetF, sRetN, sIf, sAsg, sPar, sPar3, sExpr, sNil, sNever, sPub, sOwn, sApp, sPut, dBin, dVar, dC, dTst, dNot, dAnd, dOr, vAnd, vOr, vNot, dIf, dTup, dLst, aNil, aCons, dCall, dCallU, dCallK, dCallI, dIsi, dOwnIx, gNm, gTp, gsNil, gsCons, iR1, iEn, iLst, dListZip, dRep, ownL, ownD, putL, putD, pubS, bd_ok', v_add, v_sub, v_lt, v_le, v_gt, v_ge, v_is0, v_is1, v_eqI, v_neI, v_isII, v_isBI, List.map_cons, List.map_nil, List.cons_append, List.nil_append, List.append_nil, List.length_cons, List.length_nil, List.replicate, List.getElem?_cons_zero, List.getElem?_cons_succ, List.set_cons_zero, List.set_cons_succ, if_true, if_false, Nat.reduceAdd, Nat.reduceSub, Nat.reduceEqDiff, Bool.false_eq_true, Bool.not_true, Bool.not_false, decide_true, decide_false, and_self, bdC_ok, bdI_ok, bdM_ok, nx_ok, exI_ok, tView, dView, e, if_neg c]
    rw [show n + 1 + 1 - 1 = n + 1 from rfl, ih]
    rfl
theorem px_bm : Pfx gb_base_members := px_sq px_pl (px_sq px_pl (px_while (px_sq px_yl px_pl)))
/-! ### members and ranks of the law -/
theorem e_lmem (n : Nat) (h : n < 2 ^ 300) : f__law_member [.int n] = ok (.int (Bm n)) := by
  have e1 : f__law_digits [.int n, .int 2] = _ := e_digits (r := 2) (by decide) (by decide) n h
  have e2 : f__law_read [.lst (iN (dg 2 n)), .int 3] = _ := e_read (dg 2 n)
  rw [vr_dg] at e2
  simp only [f__law_member, b__law_member, runP, runF, runI, sSeq, sSet, sRet, sRetF, sRetN, sIf, sAsg, sPar, sPar3, sExpr, sNil, sNever, sPub, sOwn, sApp, sPut, dBin, dVar, dC, dTst, dNot, dAnd, dOr, vAnd, vOr, vNot, dIf, dTup, dLst, aNil, aCons, dCall, dCallU, dCallK, dCallI, dIsi, dOwnIx, gNm, gTp, gsNil, gsCons, iR1, iEn, iLst, dListZip, dRep, ownL, ownD, putL, putD, pubS, bd_ok', v_add, v_sub, v_lt, v_le, v_gt, v_ge, v_is0, v_is1, v_eqI, v_neI, v_isII, v_isBI, List.map_cons, List.map_nil, List.cons_append, List.nil_append, List.append_nil, List.length_cons, List.length_nil, List.replicate, List.getElem?_cons_zero, List.getElem?_cons_succ, List.set_cons_zero, List.set_cons_succ, if_true, if_false, Nat.reduceAdd, Nat.reduceSub, Nat.reduceEqDiff, Bool.false_eq_true, Bool.not_true, Bool.not_false, decide_true, decide_false, and_self, bdC_ok, bdI_ok, bdM_ok, nx_ok, exI_ok, tView, dView, e1, e2]
theorem up_loop (g : Nat) (x : Sl) : ∀ (t h : Nat), 0 < h → g ≤ Bm (h * 2 ^ t) → h * 2 ^ t < 2 ^ 300 → ∃ h' : Nat, sWhile (dTst (dBin ltI (dCallU 1 f__law_member [] (aCons (dVar 2) aNil)) (dVar 0))) (sSet 2 (dBin mulI (dC (.int 2)) (dVar 2))) [.val (.int g), .val (.int 0), .val (.int h), x] = ok (.nx [.val (.int g), .val (.int 0), .val (.int h'), x]) ∧ g ≤ Bm h' ∧ h' < 2 ^ 300
  | t, h, h0, hg, hb => by
    have p := Nat.pow_pos (n := t) (show 0 < 2 by decide)
    have hh : h < 2 ^ 300 := Nat.lt_of_le_of_lt (Nat.le_mul_of_pos_right h p) hb
    have e := e_lmem h hh
    by_cases c : g ≤ Bm h
    · refine ⟨h, while_end ?_, c, hh⟩
      have c2 : ¬ (Bm h : Int) < g := by omega
      simp only [runP, runF, runI, sSeq, sSet, sRet, sRetF, sRetN, sIf, sAsg, sPar, sPar3, sExpr, sNil, sNever, sPub, sOwn, sApp, sPut, dBin, dVar, dC, dTst, dNot, dAnd, dOr, vAnd, vOr, vNot, dIf, dTup, dLst, aNil, aCons, dCall, dCallU, dCallK, dCallI, dIsi, dOwnIx, gNm, gTp, gsNil, gsCons, iR1, iEn, iLst, dListZip, dRep, ownL, ownD, putL, putD, pubS, bd_ok', v_add, v_sub, v_lt, v_le, v_gt, v_ge, v_is0, v_is1, v_eqI, v_neI, v_isII, v_isBI, List.map_cons, List.map_nil, List.cons_append, List.nil_append, List.append_nil, List.length_cons, List.length_nil, List.replicate, List.getElem?_cons_zero, List.getElem?_cons_succ, List.set_cons_zero, List.set_cons_succ, if_true, if_false, Nat.reduceAdd, Nat.reduceSub, Nat.reduceEqDiff, Bool.false_eq_true, Bool.not_true, Bool.not_false, decide_true, decide_false, and_self, bdC_ok, bdI_ok, bdM_ok, nx_ok, exI_ok, tView, dView, e, c2]
    · cases t with
      | zero =>
        rw [Nat.pow_zero, Nat.mul_one] at hg
        exact absurd hg c
      | succ t =>
        have m2 := fun i : Int => v_mulL (j := i) (show -(2 ^ 64) < (2 : Int) by decide) (show (2 : Int) < 2 ^ 64 by decide)
        have eh : (2 * h) * 2 ^ t = h * 2 ^ (t + 1) := by
          rw [Nat.pow_succ, Nat.mul_comm 2 h, Nat.mul_assoc, Nat.mul_comm 2]
        obtain ⟨h', e1, e2, e3⟩ := up_loop g x t (2 * h) (by omega) (by rw [eh]; exact hg) (by rw [eh]; exact hb)
        refine ⟨h', while_go ?_ ?_ e1, e2, e3⟩
        · have c2 : (Bm h : Int) < g := by omega
          simp only [runP, runF, runI, sSeq, sSet, sRet, sRetF, sRetN, sIf, sAsg, sPar, sPar3, sExpr, sNil, sNever, sPub, sOwn, sApp, sPut, dBin, dVar, dC, dTst, dNot, dAnd, dOr, vAnd, vOr, vNot, dIf, dTup, dLst, aNil, aCons, dCall, dCallU, dCallK, dCallI, dIsi, dOwnIx, gNm, gTp, gsNil, gsCons, iR1, iEn, iLst, dListZip, dRep, ownL, ownD, putL, putD, pubS, bd_ok', v_add, v_sub, v_lt, v_le, v_gt, v_ge, v_is0, v_is1, v_eqI, v_neI, v_isII, v_isBI, List.map_cons, List.map_nil, List.cons_append, List.nil_append, List.append_nil, List.length_cons, List.length_nil, List.replicate, List.getElem?_cons_zero, List.getElem?_cons_succ, List.set_cons_zero, List.set_cons_succ, if_true, if_false, Nat.reduceAdd, Nat.reduceSub, Nat.reduceEqDiff, Bool.false_eq_true, Bool.not_true, Bool.not_false, decide_true, decide_false, and_self, bdC_ok, bdI_ok, bdM_ok, nx_ok, exI_ok, tView, dView, e, c2]
        · simp only [runP, runF, runI, sSeq, sSet, sRet, sRetF, sRetN, sIf, sAsg, sPar, sPar3, sExpr, sNil, sNever, sPub, sOwn, sApp, sPut, dBin, dVar, dC, dTst, dNot, dAnd, dOr, vAnd, vOr, vNot, dIf, dTup, dLst, aNil, aCons, dCall, dCallU, dCallK, dCallI, dIsi, dOwnIx, gNm, gTp, gsNil, gsCons, iR1, iEn, iLst, dListZip, dRep, ownL, ownD, putL, putD, pubS, bd_ok', v_add, v_sub, v_lt, v_le, v_gt, v_ge, v_is0, v_is1, v_eqI, v_neI, v_isII, v_isBI, List.map_cons, List.map_nil, List.cons_append, List.nil_append, List.append_nil, List.length_cons, List.length_nil, List.replicate, List.getElem?_cons_zero, List.getElem?_cons_succ, List.set_cons_zero, List.set_cons_succ, if_true, if_false, Nat.reduceAdd, Nat.reduceSub, Nat.reduceEqDiff, Bool.false_eq_true, Bool.not_true, Bool.not_false, decide_true, decide_false, and_self, bdC_ok, bdI_ok, bdM_ok, nx_ok, exI_ok, tView, dView, m2]
          rfl
theorem halve_loop (g : Nat) : ∀ (k lo hi : Nat) (x : Sl), hi - lo ≤ k → lo ≤ hi → hi < 2 ^ 300 → g ≤ Bm hi → (∀ m, m < lo → Bm m < g) →
    ∃ (n : Nat) (y : Sl), sWhile (dTst (dBin ltI (dVar 1) (dVar 2))) (sSeq (sSet 3 (dBin divI (dBin addI (dVar 1) (dVar 2)) (dC (.int 2))))
    (sIf (dTst (dBin ltI (dCallU 1 f__law_member [] (aCons (dVar 3) aNil)) (dVar 0)))
    (sSet 1 (dBin addI (dVar 3) (dC (.int 1))))
    (sSet 2 (dVar 3)))) [.val (.int g), .val (.int lo), .val (.int hi), x] = ok (.nx [.val (.int g), .val (.int n), .val (.int n), y]) ∧ g ≤ Bm n ∧ (∀ m, m < n → Bm m < g)
  | k, lo, hi, x, hk, hl, hb, h1, h2 => by
    by_cases c : lo = hi
    · subst c
      refine ⟨lo, x, while_end ?_, h1, h2⟩
      have c2 : ¬ (lo : Int) < lo := by omega
      simp only [runP, runF, runI, sSeq, sSet, sRet, sRetF, sRetN, sIf, sAsg, sPar, sPar3, sExpr, sNil, sNever, sPub, sOwn, sApp, sPut, dBin, dVar, dC, dTst, dNot, dAnd, dOr, vAnd, vOr, vNot, dIf, dTup, dLst, aNil, aCons, dCall, dCallU, dCallK, dCallI, dIsi, dOwnIx, gNm, gTp, gsNil, gsCons, iR1, iEn, iLst, dListZip, dRep, ownL, ownD, putL, putD, pubS, bd_ok', v_add, v_sub, v_lt, v_le, v_gt, v_ge, v_is0, v_is1, v_eqI, v_neI, v_isII, v_isBI, List.map_cons, List.map_nil, List.cons_append, List.nil_append, List.append_nil, List.length_cons, List.length_nil, List.replicate, List.getElem?_cons_zero, List.getElem?_cons_succ, List.set_cons_zero, List.set_cons_succ, if_true, if_false, Nat.reduceAdd, Nat.reduceSub, Nat.reduceEqDiff, Bool.false_eq_true, Bool.not_true, Bool.not_false, decide_true, decide_false, and_self, bdC_ok, bdI_ok, bdM_ok, nx_ok, exI_ok, tView, dView, c2]
    · cases k with
      | zero => omega
      | succ k =>
        have hm : (lo + hi) / 2 < hi := by omega
        have e := e_lmem ((lo + hi) / 2) (by omega)
        have d2 : divOk (2 : Int) := dvSmall (n := 2) (by decide) (by decide)
        have em : ((lo : Int) + hi) / 2 = (((lo + hi) / 2 : Nat) : Int) := by omega
        have cl : (lo : Int) < hi := by omega
        by_cases c2 : Bm ((lo + hi) / 2) < g
        · obtain ⟨n, y, e1, e2, e3⟩ := halve_loop g k ((lo + hi) / 2 + 1) hi (.val (.int (((lo + hi) / 2 : Nat) : Int))) (by omega) (by omega) hb h1 fun m hm2 => Nat.lt_of_le_of_lt (Bm_mono (by omega)) c2
          refine ⟨n, y, while_go ?_ ?_ e1, e2, e3⟩
          · simp only [runP, runF, runI, sSeq, sSet, sRet, sRetF, sRetN, sIf, sAsg, sPar, sPar3, sExpr, sNil, sNever, sPub, sOwn, sApp, sPut, dBin, dVar, dC, dTst, dNot, dAnd, dOr, vAnd, vOr, vNot, dIf, dTup, dLst, aNil, aCons, dCall, dCallU, dCallK, dCallI, dIsi, dOwnIx, gNm, gTp, gsNil, gsCons, iR1, iEn, iLst, dListZip, dRep, ownL, ownD, putL, putD, pubS, bd_ok', v_add, v_sub, v_lt, v_le, v_gt, v_ge, v_is0, v_is1, v_eqI, v_neI, v_isII, v_isBI, List.map_cons, List.map_nil, List.cons_append, List.nil_append, List.append_nil, List.length_cons, List.length_nil, List.replicate, List.getElem?_cons_zero, List.getElem?_cons_succ, List.set_cons_zero, List.set_cons_succ, if_true, if_false, Nat.reduceAdd, Nat.reduceSub, Nat.reduceEqDiff, Bool.false_eq_true, Bool.not_true, Bool.not_false, decide_true, decide_false, and_self, bdC_ok, bdI_ok, bdM_ok, nx_ok, exI_ok, tView, dView, cl]
          · have c3 : (Bm ((lo + hi) / 2) : Int) < g := by omega
            simp only [runP, runF, runI, sSeq, sSet, sRet, sRetF, sRetN, sIf, sAsg, sPar, sPar3, sExpr, sNil, sNever, sPub, sOwn, sApp, sPut, dBin, dVar, dC, dTst, dNot, dAnd, dOr, vAnd, vOr, vNot, dIf, dTup, dLst, aNil, aCons, dCall, dCallU, dCallK, dCallI, dIsi, dOwnIx, gNm, gTp, gsNil, gsCons, iR1, iEn, iLst, dListZip, dRep, ownL, ownD, putL, putD, pubS, bd_ok', v_add, v_sub, v_lt, v_le, v_gt, v_ge, v_is0, v_is1, v_eqI, v_neI, v_isII, v_isBI, List.map_cons, List.map_nil, List.cons_append, List.nil_append, List.append_nil, List.length_cons, List.length_nil, List.replicate, List.getElem?_cons_zero, List.getElem?_cons_succ, List.set_cons_zero, List.set_cons_succ, if_true, if_false, Nat.reduceAdd, Nat.reduceSub, Nat.reduceEqDiff, Bool.false_eq_true, Bool.not_true, Bool.not_false, decide_true, decide_false, and_self, bdC_ok, bdI_ok, bdM_ok, nx_ok, exI_ok, tView, dView, v_div d2, em, e, c3]
            rfl
        · obtain ⟨n, y, e1, e2, e3⟩ := halve_loop g k lo ((lo + hi) / 2) (.val (.int (((lo + hi) / 2 : Nat) : Int))) (by omega) (by omega) (by omega) (by omega) h2
          refine ⟨n, y, while_go ?_ ?_ e1, e2, e3⟩
          · simp only [runP, runF, runI, sSeq, sSet, sRet, sRetF, sRetN, sIf, sAsg, sPar, sPar3, sExpr, sNil, sNever, sPub, sOwn, sApp, sPut, dBin, dVar, dC, dTst, dNot, dAnd, dOr, vAnd, vOr, vNot, dIf, dTup, dLst, aNil, aCons, dCall, dCallU, dCallK, dCallI, dIsi, dOwnIx, gNm, gTp, gsNil, gsCons, iR1, iEn, iLst, dListZip, dRep, ownL, ownD, putL, putD, pubS, bd_ok', v_add, v_sub, v_lt, v_le, v_gt, v_ge, v_is0, v_is1, v_eqI, v_neI, v_isII, v_isBI, List.map_cons, List.map_nil, List.cons_append, List.nil_append, List.append_nil, List.length_cons, List.length_nil, List.replicate, List.getElem?_cons_zero, List.getElem?_cons_succ, List.set_cons_zero, List.set_cons_succ, if_true, if_false, Nat.reduceAdd, Nat.reduceSub, Nat.reduceEqDiff, Bool.false_eq_true, Bool.not_true, Bool.not_false, decide_true, decide_false, and_self, bdC_ok, bdI_ok, bdM_ok, nx_ok, exI_ok, tView, dView, cl]
          · have c3 : ¬ (Bm ((lo + hi) / 2) : Int) < g := by omega
            simp only [runP, runF, runI, sSeq, sSet, sRet, sRetF, sRetN, sIf, sAsg, sPar, sPar3, sExpr, sNil, sNever, sPub, sOwn, sApp, sPut, dBin, dVar, dC, dTst, dNot, dAnd, dOr, vAnd, vOr, vNot, dIf, dTup, dLst, aNil, aCons, dCall, dCallU, dCallK, dCallI, dIsi, dOwnIx, gNm, gTp, gsNil, gsCons, iR1, iEn, iLst, dListZip, dRep, ownL, ownD, putL, putD, pubS, bd_ok', v_add, v_sub, v_lt, v_le, v_gt, v_ge, v_is0, v_is1, v_eqI, v_neI, v_isII, v_isBI, List.map_cons, List.map_nil, List.cons_append, List.nil_append, List.append_nil, List.length_cons, List.length_nil, List.replicate, List.getElem?_cons_zero, List.getElem?_cons_succ, List.set_cons_zero, List.set_cons_succ, if_true, if_false, Nat.reduceAdd, Nat.reduceSub, Nat.reduceEqDiff, Bool.false_eq_true, Bool.not_true, Bool.not_false, decide_true, decide_false, and_self, bdC_ok, bdI_ok, bdM_ok, nx_ok, exI_ok, tView, dView, v_div d2, em, e, c3]
theorem e_below (g : Nat) (h : g < 3 ^ 126) : ∃ n : Nat, f__law_below [.int g] = ok (.int n) ∧ g ≤ Bm n ∧ (∀ m, m < n → Bm m < g) := by
  have b1 : (3 : Nat) ^ 126 < 2 ^ 200 := by decide
  obtain ⟨h', e1, e2, e3⟩ := up_loop g .un 200 1 (by decide) (by rw [Nat.one_mul]; exact Nat.le_trans (by omega) (Bm_ge _)) (by rw [Nat.one_mul]; exact Nat.pow_lt_pow_right (by decide) (by decide))
  obtain ⟨n, y, e4, e5, e6⟩ := halve_loop g h' 0 h' .un (by omega) (Nat.zero_le _) e3 e2 fun m hm => by omega
  refine ⟨n, ?_, e5, e6⟩
  have e1 : sWhile _ _ [.val (.int g), .val (.int 0), .val (.int 1), .un] = _ := e1
  have e4 : sWhile _ _ [.val (.int g), .val (.int 0), .val (.int h'), .un] = _ := e4
  have h2 : 0 + 1 + 1 ≤ sizeLine := by
    show 2 ≤ 2 ^ 24
    decide
  simp only [f__law_below, b__law_below, runP, runF, runI, sSeq, sSet, sRet, sRetF, sRetN, sIf, sAsg, sPar, sPar3, sExpr, sNil, sNever, sPub, sOwn, sApp, sPut, dBin, dVar, dC, dTst, dNot, dAnd, dOr, vAnd, vOr, vNot, dIf, dTup, dLst, aNil, aCons, dCall, dCallU, dCallK, dCallI, dIsi, dOwnIx, gNm, gTp, gsNil, gsCons, iR1, iEn, iLst, dListZip, dRep, ownL, ownD, putL, putD, pubS, bd_ok', v_add, v_sub, v_lt, v_le, v_gt, v_ge, v_is0, v_is1, v_eqI, v_neI, v_isII, v_isBI, List.map_cons, List.map_nil, List.cons_append, List.nil_append, List.append_nil, List.length_cons, List.length_nil, List.replicate, List.getElem?_cons_zero, List.getElem?_cons_succ, List.set_cons_zero, List.set_cons_succ, if_true, if_false, Nat.reduceAdd, Nat.reduceSub, Nat.reduceEqDiff, Bool.false_eq_true, Bool.not_true, Bool.not_false, decide_true, decide_false, and_self, bdC_ok, bdI_ok, bdM_ok, nx_ok, exI_ok, tView, dView, h2, e1, e4]
theorem reprB (b : Bool) : reprN [.lst [.bl b, .bl b]] = ok (.str (D.py (.lst [.bl b, .bl b])).shown) := by
  refine repr_lst ?_ ?_ ?_
  · cases b <;> rfl
  · cases b <;> decide
  · cases b <;> decide
theorem last_any (g : Nat) (n : Nat) (h : g + 1 < 3 ^ 250) (hn : f_rank_of [.int (g + 1 : Nat)] = ok (.int (n + 1 : Nat))) (hb : n < 2 ^ 300) : f_last_base [.int g] = ok (.int (Bm n)) := by
  have e1 := e_check g (by omega)
  have e2 : f_rank_of [.int ((g : Int) + 1)] = ok (.int ((n + 1 : Nat) : Int)) := hn
  have e3 : ((n + 1 : Nat) : Int) - 1 = (n : Int) := by omega
  have e4 := e_member_at n hb
  simp only [f_last_base, b_last_base, runP, runF, runI, sSeq, sSet, sRet, sRetF, sRetN, sIf, sAsg, sPar, sPar3, sExpr, sNil, sNever, sPub, sOwn, sApp, sPut, dBin, dVar, dC, dTst, dNot, dAnd, dOr, vAnd, vOr, vNot, dIf, dTup, dLst, aNil, aCons, dCall, dCallU, dCallK, dCallI, dIsi, dOwnIx, gNm, gTp, gsNil, gsCons, iR1, iEn, iLst, dListZip, dRep, ownL, ownD, putL, putD, pubS, bd_ok', v_add, v_sub, v_lt, v_le, v_gt, v_ge, v_is0, v_is1, v_eqI, v_neI, v_isII, v_isBI, List.map_cons, List.map_nil, List.cons_append, List.nil_append, List.append_nil, List.length_cons, List.length_nil, List.replicate, List.getElem?_cons_zero, List.getElem?_cons_succ, List.set_cons_zero, List.set_cons_succ, if_true, if_false, Nat.reduceAdd, Nat.reduceSub, Nat.reduceEqDiff, Bool.false_eq_true, Bool.not_true, Bool.not_false, decide_true, decide_false, and_self, bdC_ok, bdI_ok, bdM_ok, nx_ok, exI_ok, tView, dView, e1, e2, e3, e4]
theorem e_rank (g : Nat) (h : g < 3 ^ 126) : f__law_rank_right [.int g] = ok (.bl true) := by
  have b1 : (3 : Nat) ^ 126 + 1 < 3 ^ 250 := by decide
  have b2 : (3 : Nat) ^ 250 < 2 ^ 1000 := by decide
  have b3 : (3 : Nat) ^ 250 < 3 ^ 300 := Nat.pow_lt_pow_right (by decide) (by decide)
  have b4 : (2 : Nat) ^ 250 + 2 < 2 ^ 300 := by decide
  have b5 : (3 : Nat) ^ 126 < 2 ^ 200 := by decide
  have b6 : (2 : Nat) ^ 200 + 2 < 2 ^ 250 := by decide
  obtain ⟨n, e1, h1, h2⟩ := e_below g h
  obtain ⟨n', r1, r2, r3, r4⟩ := e_rank_any g (by omega)
  have en := rank_one h1 h2 r2 r3
  subst en
  have ec := e_check g (by omega)
  have R1 : f_base_rank [.int g] = ok (.int n) := by
    simp only [f_base_rank, b_base_rank, runP, runF, runI, sSeq, sSet, sRet, sRetF, sRetN, sIf, sAsg, sPar, sPar3, sExpr, sNil, sNever, sPub, sOwn, sApp, sPut, dBin, dVar, dC, dTst, dNot, dAnd, dOr, vAnd, vOr, vNot, dIf, dTup, dLst, aNil, aCons, dCall, dCallU, dCallK, dCallI, dIsi, dOwnIx, gNm, gTp, gsNil, gsCons, iR1, iEn, iLst, dListZip, dRep, ownL, ownD, putL, putD, pubS, bd_ok', v_add, v_sub, v_lt, v_le, v_gt, v_ge, v_is0, v_is1, v_eqI, v_neI, v_isII, v_isBI, List.map_cons, List.map_nil, List.cons_append, List.nil_append, List.append_nil, List.length_cons, List.length_nil, List.replicate, List.getElem?_cons_zero, List.getElem?_cons_succ, List.set_cons_zero, List.set_cons_succ, if_true, if_false, Nat.reduceAdd, Nat.reduceSub, Nat.reduceEqDiff, Bool.false_eq_true, Bool.not_true, Bool.not_false, decide_true, decide_false, and_self, bdC_ok, bdI_ok, bdM_ok, nx_ok, exI_ok, tView, dView, ec, r1]
  obtain ⟨q, N1, N2, N3, N4, N5⟩ := e_next g (by omega)
  have i1 := e_in_base g (by omega)
  have l1 := e_lmem n (by omega)
  have nB : n < 2 ^ 200 + 1 := by
    refine Classical.byContradiction fun c => ?_
    have := h2 (2 ^ 200) (by omega)
    have := Bm_ge (2 ^ 200)
    omega
  have x2 : 0 + 1 + 1 ≤ sizeLine := by
    show 2 ≤ 2 ^ 24
    decide
  have rp1 := repr2 (a := n) (by omega)
  have rb := fun b => reprB b
  by_cases c : Bm n = g
  · have ep : pl g := pl_of.mpr ⟨n, c.symm⟩
    have eq : q = n + 1 := by
      have a1 : n < q := Classical.byContradiction fun z => by
        have := Bm_mono (show q ≤ n by omega)
        omega
      refine Classical.byContradiction fun z => ?_
      have := N3 (n + 1) (by omega)
      have := Bm_lt n
      omega
    subst eq
    have L1 := last_any g n (by omega) N5 (by omega)
    rw [c] at L1
    have l2 : f__law_member [.int ((n : Int) + 1)] = ok (.int (Bm (n + 1))) := e_lmem (n + 1) (by omega)
    have bq : Bm (n + 1) < 2 ^ 1000 := Nat.lt_trans (Bm_lt3 250 (n + 1) (by omega)) b2
    have rp2 := repr2 (a := Bm (n + 1)) bq
    have rp3 := repr2 (a := g) (by omega)
    have c2 : ((Bm n : Nat) : Int) = g := by omega
    rw [decide_eq_true ep] at i1
    simp only [f__law_rank_right, b__law_rank_right, v_neSS, v_eqSS, intN, iN, iD, List.map_cons, List.map_nil, runP, runF, runI, sSeq, sSet, sRet, sRetF, sRetN, sIf, sAsg, sPar, sPar3, sExpr, sNil, sNever, sPub, sOwn, sApp, sPut, dBin, dVar, dC, dTst, dNot, dAnd, dOr, vAnd, vOr, vNot, dIf, dTup, dLst, aNil, aCons, dCall, dCallU, dCallK, dCallI, dIsi, dOwnIx, gNm, gTp, gsNil, gsCons, iR1, iEn, iLst, dListZip, dRep, ownL, ownD, putL, putD, pubS, bd_ok', v_add, v_sub, v_lt, v_le, v_gt, v_ge, v_is0, v_is1, v_eqI, v_neI, v_isII, v_isBI, List.map_cons, List.map_nil, List.cons_append, List.nil_append, List.append_nil, List.length_cons, List.length_nil, List.replicate, List.getElem?_cons_zero, List.getElem?_cons_succ, List.set_cons_zero, List.set_cons_succ, if_true, if_false, Nat.reduceAdd, Nat.reduceSub, Nat.reduceEqDiff, Bool.false_eq_true, Bool.not_true, Bool.not_false, decide_true, decide_false, and_self, bdC_ok, bdI_ok, bdM_ok, nx_ok, exI_ok, tView, dView, e1, R1, i1, l1, l2, N1, L1, c2, rp1, rp2, rp3, rb, x2] at *
  · have ep : ¬ pl g := fun z => by
      obtain ⟨k, ek⟩ := pl_of.mp z
      have a1 : ¬ k < n := fun y => by
        have := h2 k y
        omega
      have a2 := Bm_mono (show n ≤ k by omega)
      omega
    have n0 : 0 < n := Classical.byContradiction fun z => by
      have : n = 0 := by omega
      subst this
      rw [Bm_zero] at h1 c
      omega
    have eq : q = n := by
      refine Nat.le_antisymm ?_ ?_
      · refine Classical.byContradiction fun z => ?_
        have := N3 n (by omega)
        omega
      · refine Classical.byContradiction fun z => ?_
        have := h2 q (by omega)
        omega
    subst eq
    have L1 := last_any g (q - 1) (by omega) (by rw [show q - 1 + 1 = q by omega]; exact N5) (by omega)
    have l2 : f__law_member [.int ((q : Int) + 0)] = ok (.int (Bm q)) := by
      rw [Int.add_zero]
      exact l1
    have l3 : f__law_member [.int ((q : Int) - 1)] = ok (.int (Bm (q - 1))) := by
      have := e_lmem (q - 1) (by omega)
      rw [show ((q - 1 : Nat) : Int) = (q : Int) - 1 by omega] at this
      exact this
    have bq : Bm q < 2 ^ 1000 := Nat.lt_trans (Bm_lt3 250 q (by omega)) b2
    have bq2 : Bm (q - 1) < 2 ^ 1000 := Nat.lt_trans (Bm_lt3 250 (q - 1) (by omega)) b2
    have rp2 := repr2 (a := Bm q) bq
    have rp3 := repr2 (a := Bm (q - 1)) bq2
    have c2 : ¬ ((Bm q : Nat) : Int) = g := by omega
    rw [decide_eq_false ep] at i1
    simp only [f__law_rank_right, b__law_rank_right, v_neSS, v_eqSS, intN, iN, iD, List.map_cons, List.map_nil, runP, runF, runI, sSeq, sSet, sRet, sRetF, sRetN, sIf, sAsg, sPar, sPar3, sExpr, sNil, sNever, sPub, sOwn, sApp, sPut, dBin, dVar, dC, dTst, dNot, dAnd, dOr, vAnd, vOr, vNot, dIf, dTup, dLst, aNil, aCons, dCall, dCallU, dCallK, dCallI, dIsi, dOwnIx, gNm, gTp, gsNil, gsCons, iR1, iEn, iLst, dListZip, dRep, ownL, ownD, putL, putD, pubS, bd_ok', v_add, v_sub, v_lt, v_le, v_gt, v_ge, v_is0, v_is1, v_eqI, v_neI, v_isII, v_isBI, List.map_cons, List.map_nil, List.cons_append, List.nil_append, List.append_nil, List.length_cons, List.length_nil, List.replicate, List.getElem?_cons_zero, List.getElem?_cons_succ, List.set_cons_zero, List.set_cons_succ, if_true, if_false, Nat.reduceAdd, Nat.reduceSub, Nat.reduceEqDiff, Bool.false_eq_true, Bool.not_true, Bool.not_false, decide_true, decide_false, and_self, bdC_ok, bdI_ok, bdM_ok, nx_ok, exI_ok, tView, dView, e1, R1, i1, l1, l2, l3, N1, L1, c2, rp1, rp2, rp3, rb, x2]
/-! ### so many members -/
theorem collect {T : D → S → M S} {F : S → M Out} (st : List Nat → Sl → S) (N : Nat) (hT : ∀ (x : Nat) acc y, T (.int x) (st acc y) = ok (st acc (.val (.int x)))) (hF : ∀ (x : Nat) acc, acc.length < N → F (st acc (.val (.int x))) = ok (if acc.length + 1 = N then .bk (st (acc ++ [x]) (.val (.int x))) else .nx (st (acc ++ [x]) (.val (.int x))))) :
    ∀ (xs acc : List Nat) (y : Sl), xs ≠ [] → acc.length + xs.length = N → ∃ z, forB T F (iN xs) (st acc y) = some (.inr (.nx (st (acc ++ xs) z)))
  | [], _, _, h, _ => absurd rfl h
  | x :: xs, acc, y, _, hl => by
    rw [List.length_cons] at hl
    show ∃ z, forB T F (D.int x :: iN xs) _ = _
    rw [forB_at (hT x acc y) (hF x acc (by omega))]
    by_cases c : acc.length + 1 = N
    · rw [if_pos c]
      (have : xs = [] := List.eq_nil_of_length_eq_zero (by omega))
      subst this
      exact ⟨_, rfl⟩
    · rw [if_neg c]
      obtain ⟨z, e⟩ := collect st N hT hF xs (acc ++ [x]) (.val (.int x)) (fun z => by subst z; simp at hl; omega) (by rw [List.length_append, List.length_singleton]; omega)
      rw [List.append_assoc] at e
      exact ⟨z, e⟩
theorem len_iN (ns : List Nat) : lenN [.lst (iN ns)] = ok (.int (ns.length : Nat)) := by
  unfold lenN
  dsimp only
  rw [List.length_map, List.length_map]
theorem szl2 {n : Nat} (h : n ≤ 3000) : n < sizeLine := by
  show n < 2 ^ 24
  omega
theorem e_bmk (k n : Nat) (h : k + n < 2 ^ 300) : gb_base_members (n + 1) [.val (.int k), .un] = ok (iN ((List.range (n + 1)).map fun i => Bm (k + i)), none) := by
  have e1 := e_check k (by omega)
  have e2 := gWhile_of (bm_loop n k (.val (.int k)) h)
  simp only [gb_base_members, gSq, gPl, runP, runF, runI, sSeq, sSet, sRet, sRetF, sRetN, sIf, sAsg, sPar, sPar3, sExpr, sNil, sNever, sPub, sOwn, sApp, sPut, dBin, dVar, dC, dTst, dNot, dAnd, dOr, vAnd, vOr, vNot, dIf, dTup, dLst, aNil, aCons, dCall, dCallU, dCallK, dCallI, dIsi, dOwnIx, gNm, gTp, gsNil, gsCons, iR1, iEn, iLst, dListZip, dRep, ownL, ownD, putL, putD, pubS, bd_ok', v_add, v_sub, v_lt, v_le, v_gt, v_ge, v_is0, v_is1, v_eqI, v_neI, v_isII, v_isBI, List.map_cons, List.map_nil, List.cons_append, List.nil_append, List.append_nil, List.length_cons, List.length_nil, List.replicate, List.getElem?_cons_zero, List.getElem?_cons_succ, List.set_cons_zero, List.set_cons_succ, if_true, if_false, Nat.reduceAdd, Nat.reduceSub, Nat.reduceEqDiff, Bool.false_eq_true, Bool.not_true, Bool.not_false, decide_true, decide_false, and_self, bdC_ok, bdI_ok, bdM_ok, nx_ok, exI_ok, tView, dView, e1, Nat.sub_zero, e2]
theorem e_order_right (n : Nat) (h : n < 3 ^ 126) : f__law_order_right [.int n] = ok (.bl true) := by
  have b1 : (3 : Nat) ^ 126 + 20 < 2 ^ 200 := by decide
  have b2 : (3 : Nat) ^ 200 < 2 ^ 1000 := by decide
  have b3 : (2 : Nat) ^ 200 < 2 ^ 300 := Nat.pow_lt_pow_right (by decide) (by decide)
  have b4 : (3 : Nat) ^ 200 + 1 < 3 ^ 250 := by decide
  have b5 : (3 : Nat) ^ 250 < 3 ^ 300 := Nat.pow_lt_pow_right (by decide) (by decide)
  have bB := Bm_lt3 200 n (by omega)
  have l1 := e_lmem n (by omega)
  have m1 := e_member n (by omega)
  have rp1 := repr2 (a := Bm n) (by omega)
  have k1 := e_rankB n (by omega)
  have k2 : f_base_rank [.int ((Bm n : Int) + 1)] = ok (.int ((n : Int) + 1)) := by
    obtain ⟨r, h1, h2, h3, h4⟩ := e_rank_any (Bm n + 1) (by omega)
    have er : r = n + 1 := rank_one h2 h3 (Bm_lt n) fun k hk => by
      have := Bm_mono (show k ≤ n by omega)
      omega
    subst er
    have e1 : f_check_number [.int ((Bm n : Int) + 1), .int 0, .non] = _ := e_check ((Bm n : Int) + 1) (by omega)
    have h1 : f_rank_of [.int ((Bm n : Int) + 1)] = ok (.int ((n : Int) + 1)) := h1
    simp only [f_base_rank, b_base_rank, runP, runF, runI, sSeq, sSet, sRet, sRetF, sRetN, sIf, sAsg, sPar, sPar3, sExpr, sNil, sNever, sPub, sOwn, sApp, sPut, dBin, dVar, dC, dTst, dNot, dAnd, dOr, vAnd, vOr, vNot, dIf, dTup, dLst, aNil, aCons, dCall, dCallU, dCallK, dCallI, dIsi, dOwnIx, gNm, gTp, gsNil, gsCons, iR1, iEn, iLst, dListZip, dRep, ownL, ownD, putL, putD, pubS, bd_ok', v_add, v_sub, v_lt, v_le, v_gt, v_ge, v_is0, v_is1, v_eqI, v_neI, v_isII, v_isBI, List.map_cons, List.map_nil, List.cons_append, List.nil_append, List.append_nil, List.length_cons, List.length_nil, List.replicate, List.getElem?_cons_zero, List.getElem?_cons_succ, List.set_cons_zero, List.set_cons_succ, if_true, if_false, Nat.reduceAdd, Nat.reduceSub, Nat.reduceEqDiff, Bool.false_eq_true, Bool.not_true, Bool.not_false, decide_true, decide_false, and_self, bdC_ok, bdI_ok, bdM_ok, nx_ok, exI_ok, tView, dView, e1, h1]
  have i1 := e_in_baseB n (by omega)
  have x2 : 0 + 1 + 1 ≤ sizeLine := by
    show 2 ≤ 2 ^ 24
    decide
  obtain ⟨z, ef⟩ := collect (T := gNm 3) (F := (sSeq (sApp 2 (dVar 3)) (sIf (dTst (dBin eqD (dView (dCall lenN (aCons (dVar 2) aNil))) (dC (.int 9)))) sBreak sNil))) (fun acc y => [.val (.int n), .val (.int (Bm n)), .own (.lst (iN acc)), y, .un]) 9 (fun x acc y => rfl) (fun x acc hl => by
    have hz : (iN acc).length < sizeLine := by
      rw [List.length_map, List.length_map]
      exact szl2 (by omega)
    have e1 : iN acc ++ [.int (x : Int)] = iN (acc ++ [x]) := by simp
    have el := len_iN (acc ++ [x])
    rw [List.length_append, List.length_singleton] at el
    by_cases c : acc.length + 1 = 9
    · rw [if_pos c]
      rw [c] at el
      simp only [sBreak, viewS, D.scal, runP, runF, runI, sSeq, sSet, sRet, sRetF, sRetN, sIf, sAsg, sPar, sPar3, sExpr, sNil, sNever, sPub, sOwn, sApp, sPut, dBin, dVar, dC, dTst, dNot, dAnd, dOr, vAnd, vOr, vNot, dIf, dTup, dLst, aNil, aCons, dCall, dCallU, dCallK, dCallI, dIsi, dOwnIx, gNm, gTp, gsNil, gsCons, iR1, iEn, iLst, dListZip, dRep, ownL, ownD, putL, putD, pubS, bd_ok', v_add, v_sub, v_lt, v_le, v_gt, v_ge, v_is0, v_is1, v_eqI, v_neI, v_isII, v_isBI, List.map_cons, List.map_nil, List.cons_append, List.nil_append, List.append_nil, List.length_cons, List.length_nil, List.replicate, List.getElem?_cons_zero, List.getElem?_cons_succ, List.set_cons_zero, List.set_cons_succ, if_true, if_false, Nat.reduceAdd, Nat.reduceSub, Nat.reduceEqDiff, Bool.false_eq_true, Bool.not_true, Bool.not_false, decide_true, decide_false, and_self, bdC_ok, bdI_ok, bdM_ok, nx_ok, exI_ok, tView, dView, hz, e1, el]
      rfl
    · rw [if_neg c]
      have c2 : ¬ ((acc.length + 1 : Nat) : Int) = 9 := by omega
      simp only [sBreak, viewS, D.scal, runP, runF, runI, sSeq, sSet, sRet, sRetF, sRetN, sIf, sAsg, sPar, sPar3, sExpr, sNil, sNever, sPub, sOwn, sApp, sPut, dBin, dVar, dC, dTst, dNot, dAnd, dOr, vAnd, vOr, vNot, dIf, dTup, dLst, aNil, aCons, dCall, dCallU, dCallK, dCallI, dIsi, dOwnIx, gNm, gTp, gsNil, gsCons, iR1, iEn, iLst, dListZip, dRep, ownL, ownD, putL, putD, pubS, bd_ok', v_add, v_sub, v_lt, v_le, v_gt, v_ge, v_is0, v_is1, v_eqI, v_neI, v_isII, v_isBI, List.map_cons, List.map_nil, List.cons_append, List.nil_append, List.append_nil, List.length_cons, List.length_nil, List.replicate, List.getElem?_cons_zero, List.getElem?_cons_succ, List.set_cons_zero, List.set_cons_succ, if_true, if_false, Nat.reduceAdd, Nat.reduceSub, Nat.reduceEqDiff, Bool.false_eq_true, Bool.not_true, Bool.not_false, decide_true, decide_false, and_self, bdC_ok, bdI_ok, bdM_ok, nx_ok, exI_ok, tView, dView, hz, e1, el, c2]) ((List.range 9).map fun i => Bm (n + i)) [] .un (by simp) (by simp)
  rw [List.nil_append] at ef
  have eg : sForG (gArgs 1 [] (aCons (dVar 0) aNil)) gb_base_members 2 (gNm 3) (sSeq (sApp 2 (dVar 3)) (sIf (dTst (dBin eqD (dView (dCall lenN (aCons (dVar 2) aNil))) (dC (.int 9)))) sBreak sNil)) [.val (.int n), .val (.int (Bm n)), .own (.lst []), .un, .un] = ok (.nx [.val (.int n), .val (.int (Bm n)), .own (.lst (iN ((List.range 9).map fun i => Bm (n + i)))), z, .un]) :=
    forG_eq px_bm (n := 9) (by decide) (s1 := [.val (.int n), .val (.int (Bm n)), .own (.lst []), .un, .un]) (ds := [.int n]) rfl (e_bmk n 8 (by omega)) rfl ef rfl
  have hr : rngOk (9 : Int) := by decide
  have er : rangeD 0 (9 : Int).toNat = iN (List.range 9) := rangeD_iN 9
  have c1 := comp_all 4 (dCallU 1 f__law_member [] (aCons (dBin addI (dVar 0) (dVar 4)) aNil)) (fun i => Bm (n + i)) [.val (.int n), .val (.int (Bm n)), .val (.lst (iN ((List.range 9).map fun i => Bm (n + i)))), z, .un] (fun _ => rfl) (List.range 9) fun k hk => by
    have e : f__law_member [.int ((n : Int) + k)] = ok (.int (Bm (n + k))) := e_lmem (n + k) (by have := List.mem_range.mp hk; omega)
    simp only [runP, runF, runI, sSeq, sSet, sRet, sRetF, sRetN, sIf, sAsg, sPar, sPar3, sExpr, sNil, sNever, sPub, sOwn, sApp, sPut, dBin, dVar, dC, dTst, dNot, dAnd, dOr, vAnd, vOr, vNot, dIf, dTup, dLst, aNil, aCons, dCall, dCallU, dCallK, dCallI, dIsi, dOwnIx, gNm, gTp, gsNil, gsCons, iR1, iEn, iLst, dListZip, dRep, ownL, ownD, putL, putD, pubS, bd_ok', v_add, v_sub, v_lt, v_le, v_gt, v_ge, v_is0, v_is1, v_eqI, v_neI, v_isII, v_isBI, List.map_cons, List.map_nil, List.cons_append, List.nil_append, List.append_nil, List.length_cons, List.length_nil, List.replicate, List.getElem?_cons_zero, List.getElem?_cons_succ, List.set_cons_zero, List.set_cons_succ, if_true, if_false, Nat.reduceAdd, Nat.reduceSub, Nat.reduceEqDiff, Bool.false_eq_true, Bool.not_true, Bool.not_false, decide_true, decide_false, and_self, bdC_ok, bdI_ok, bdM_ok, nx_ok, exI_ok, tView, dView, e]
  have lz : (iN (List.range 9)).length ≤ sizeLine := by
    rw [List.length_map, List.length_map, List.length_range]
    exact Nat.le_of_lt (szl2 (by decide))
  have ev := v_eqL (((List.range 9).map fun i => Bm (n + i)).map fun (k : Nat) => (k : Int)) (((List.range 9).map fun i => Bm (n + i)).map fun (k : Nat) => (k : Int))
  rw [decide_eq_true rfl] at ev
  have h0 : 0 ≤ sizeLine := Nat.zero_le _
  simp only [f__law_order_right, b__law_order_right, dComp, wipeS, restS, keepV, v_neSS, iN, iD, runP, runF, runI, sSeq, sSet, sRet, sRetF, sRetN, sIf, sAsg, sPar, sPar3, sExpr, sNil, sNever, sPub, sOwn, sApp, sPut, dBin, dVar, dC, dTst, dNot, dAnd, dOr, vAnd, vOr, vNot, dIf, dTup, dLst, aNil, aCons, dCall, dCallU, dCallK, dCallI, dIsi, dOwnIx, gNm, gTp, gsNil, gsCons, iR1, iEn, iLst, dListZip, dRep, ownL, ownD, putL, putD, pubS, bd_ok', v_add, v_sub, v_lt, v_le, v_gt, v_ge, v_is0, v_is1, v_eqI, v_neI, v_isII, v_isBI, List.map_cons, List.map_nil, List.cons_append, List.nil_append, List.append_nil, List.length_cons, List.length_nil, List.replicate, List.getElem?_cons_zero, List.getElem?_cons_succ, List.set_cons_zero, List.set_cons_succ, if_true, if_false, Nat.reduceAdd, Nat.reduceSub, Nat.reduceEqDiff, Bool.false_eq_true, Bool.not_true, Bool.not_false, decide_true, decide_false, and_self, bdC_ok, bdI_ok, bdM_ok, nx_ok, exI_ok, tView, dView, l1, m1, rp1, k1, k2, i1, x2, h0] at *
  simp only [eg, runP, runF, runI, sSeq, sSet, sRet, sRetF, sRetN, sIf, sAsg, sPar, sPar3, sExpr, sNil, sNever, sPub, sOwn, sApp, sPut, dBin, dVar, dC, dTst, dNot, dAnd, dOr, vAnd, vOr, vNot, dIf, dTup, dLst, aNil, aCons, dCall, dCallU, dCallK, dCallI, dIsi, dOwnIx, gNm, gTp, gsNil, gsCons, iR1, iEn, iLst, dListZip, dRep, ownL, ownD, putL, putD, pubS, bd_ok', v_add, v_sub, v_lt, v_le, v_gt, v_ge, v_is0, v_is1, v_eqI, v_neI, v_isII, v_isBI, List.map_cons, List.map_nil, List.cons_append, List.nil_append, List.append_nil, List.length_cons, List.length_nil, List.replicate, List.getElem?_cons_zero, List.getElem?_cons_succ, List.set_cons_zero, List.set_cons_succ, if_true, if_false, Nat.reduceAdd, Nat.reduceSub, Nat.reduceEqDiff, Bool.false_eq_true, Bool.not_true, Bool.not_false, decide_true, decide_false, and_self, bdC_ok, bdI_ok, bdM_ok, nx_ok, exI_ok, tView, dView, hr, er, lz, c1, ev]
/-! ### the law -/
abbrev inner : S → M Out := (sIf (dOr (dNot (dTst (dCallU 1 f__law_rank_right [] (aCons (dCallI 6 1 f__law_number aNil) aNil)))) (dNot (dTst (dCallU 1 f__law_order_right [] (aCons (dCallI 6 1 f__law_number aNil) aNil)))))
    (sRet (dC (.bl false)))
    sNil)
theorem e_inner {a b c e f g x : Sl} {n : Nat} {d : D} (h : Strm n d) (hn : n < 5000) : ∃ d', inner [a, b, c, e, f, g, .own d, x] = ok (.nx [a, b, c, e, f, g, .own d', x]) ∧ Strm (n + 260) d' := by
  obtain ⟨r, d1, e1, r0, r1, s1⟩ := e_number h (by omega)
  obtain ⟨q, d2, e2, q0, q1, s2⟩ := e_number s1 (by omega)
  obtain ⟨i, rfl⟩ : ∃ i : Nat, r = i := ⟨r.toNat, by omega⟩
  obtain ⟨j, rfl⟩ : ∃ j : Nat, q = j := ⟨q.toNat, by omega⟩
  have e3 := e_rank i (by exact_mod_cast r1)
  have e4 := e_order_right j (by exact_mod_cast q1)
  refine ⟨d2, ?_, s2⟩
  simp only [runP, runF, runI, sSeq, sSet, sRet, sRetF, sRetN, sIf, sAsg, sPar, sPar3, sExpr, sNil, sNever, sPub, sOwn, sApp, sPut, dBin, dVar, dC, dTst, dNot, dAnd, dOr, vAnd, vOr, vNot, dIf, dTup, dLst, aNil, aCons, dCall, dCallU, dCallK, dCallI, dIsi, dOwnIx, gNm, gTp, gsNil, gsCons, iR1, iEn, iLst, dListZip, dRep, ownL, ownD, putL, putD, pubS, bd_ok', v_add, v_sub, v_lt, v_le, v_gt, v_ge, v_is0, v_is1, v_eqI, v_neI, v_isII, v_isBI, List.map_cons, List.map_nil, List.cons_append, List.nil_append, List.append_nil, List.length_cons, List.length_nil, List.replicate, List.getElem?_cons_zero, List.getElem?_cons_succ, List.set_cons_zero, List.set_cons_succ, if_true, if_false, Nat.reduceAdd, Nat.reduceSub, Nat.reduceEqDiff, Bool.false_eq_true, Bool.not_true, Bool.not_false, decide_true, decide_false, and_self, bdC_ok, bdI_ok, bdM_ok, nx_ok, exI_ok, tView, dView, e1, e2, e3, e4, h.reg, s1.reg]
abbrev outer : S → M Out := (sSeq (sOwn 6 (dCallU 2 f__law_stream [] (aCons (dVar 5) (aCons (dVar 4) aNil))))
    (sFor (iR1 (aCons (dC (.int 2)) aNil)) (gNm 7)
    (sIf (dOr (dNot (dTst (dCallU 1 f__law_rank_right [] (aCons (dCallI 6 1 f__law_number aNil) aNil)))) (dNot (dTst (dCallU 1 f__law_order_right [] (aCons (dCallI 6 1 f__law_number aNil) aNil)))))
    (sRet (dC (.bl false)))
    sNil)))
theorem e_outer {a b c e x6 x7 : Sl} {k : Nat} {item : Int} (hk : k < 100) : ∃ y6 y7, outer [a, b, c, e, .val (.int k), .val (.int item), x6, x7] = ok (.nx [a, b, c, e, .val (.int k), .val (.int item), y6, y7]) := by
  obtain ⟨d, e1, s1⟩ := e_stream item k (by omega) (by omega)
  have hr : rngOk (2 : Int) := by decide
  obtain ⟨s', eL, y, d', rfl, _⟩ := forL_inv (T := gNm 7) (F := inner) (fun i s => ∃ (y : Sl) (d' : D), s = [a, b, c, e, .val (.int k), .val (.int item), .own d', y] ∧ Strm (i * 260) d') (rangeD 0 (2 : Int).toNat) 0 [a, b, c, e, .val (.int k), .val (.int item), .own d, x7] ⟨_, _, rfl, by rw [Nat.zero_mul]; exact s1⟩ (by
    rintro i d0 s hi ⟨y, d', rfl, h⟩
    rw [Nat.zero_add] at h ⊢
    have hi2 := (List.getElem?_eq_some_iff.mp hi).1
    rw [rangeD_len] at hi2
    have hi3 : i < 2 := hi2
    obtain ⟨d2, e2, s2⟩ := e_inner (a := a) (b := b) (c := c) (e := e) (f := .val (.int k)) (g := .val (.int item)) (x := .val d0) h (by omega)
    exact ⟨_, _, rfl, e2, _, _, rfl, by rw [Nat.succ_mul]; exact s2⟩)
  refine ⟨.own d', y, ?_⟩
  simp only [sFor, runP, runF, runI, sSeq, sSet, sRet, sRetF, sRetN, sIf, sAsg, sPar, sPar3, sExpr, sNil, sNever, sPub, sOwn, sApp, sPut, dBin, dVar, dC, dTst, dNot, dAnd, dOr, vAnd, vOr, vNot, dIf, dTup, dLst, aNil, aCons, dCall, dCallU, dCallK, dCallI, dIsi, dOwnIx, gNm, gTp, gsNil, gsCons, iR1, iEn, iLst, dListZip, dRep, ownL, ownD, putL, putD, pubS, bd_ok', v_add, v_sub, v_lt, v_le, v_gt, v_ge, v_is0, v_is1, v_eqI, v_neI, v_isII, v_isBI, List.map_cons, List.map_nil, List.cons_append, List.nil_append, List.append_nil, List.length_cons, List.length_nil, List.replicate, List.getElem?_cons_zero, List.getElem?_cons_succ, List.set_cons_zero, List.set_cons_succ, if_true, if_false, Nat.reduceAdd, Nat.reduceSub, Nat.reduceEqDiff, Bool.false_eq_true, Bool.not_true, Bool.not_false, decide_true, decide_false, and_self, bdC_ok, bdI_ok, bdM_ok, nx_ok, exI_ok, tView, dView, e1, hr, eL]
theorem e_first (ns : D) : ∃ z, sForG (gArgs 1 [.int 0] aNil) gb_base_members 2 (gNm 2) (sSeq (sApp 1 (dVar 2)) (sIf (dTst (dBin eqD (dView (dCall lenN (aCons (dVar 1) aNil))) (dC (.int 2500)))) sBreak sNil)) [.val ns, .own (.lst []), .un, .un, .un, .un, .un, .un] = ok (.nx [.val ns, .own (.lst (iN ((List.range 2500).map Bm))), z, .un, .un, .un, .un, .un]) := by
  have b1 : 0 + 2499 < 2 ^ 300 := Nat.lt_of_lt_of_le (show 2499 < 2 ^ 12 by decide) (Nat.pow_le_pow_right (by decide) (by decide))
  obtain ⟨z, ef⟩ := collect (T := gNm 2) (F := (sSeq (sApp 1 (dVar 2)) (sIf (dTst (dBin eqD (dView (dCall lenN (aCons (dVar 1) aNil))) (dC (.int 2500)))) sBreak sNil))) (fun acc y => [.val ns, .own (.lst (iN acc)), y, .un, .un, .un, .un, .un]) 2500 (fun x acc y => rfl) (fun x acc hl => by
    have hz : (iN acc).length < sizeLine := by
      rw [List.length_map, List.length_map]
      exact szl2 (by omega)
    have e1 : iN acc ++ [.int (x : Int)] = iN (acc ++ [x]) := by simp
    have el := len_iN (acc ++ [x])
    rw [List.length_append, List.length_singleton] at el
    by_cases c : acc.length + 1 = 2500
    · rw [if_pos c]
      rw [c] at el
      have el : lenN [.lst (iN (acc ++ [x]))] = ok (.int 2500) := el
      simp only [sBreak, viewS, D.scal, runP, runF, runI, sSeq, sSet, sRet, sRetF, sRetN, sIf, sAsg, sPar, sPar3, sExpr, sNil, sNever, sPub, sOwn, sApp, sPut, dBin, dVar, dC, dTst, dNot, dAnd, dOr, vAnd, vOr, vNot, dIf, dTup, dLst, aNil, aCons, dCall, dCallU, dCallK, dCallI, dIsi, dOwnIx, gNm, gTp, gsNil, gsCons, iR1, iEn, iLst, dListZip, dRep, ownL, ownD, putL, putD, pubS, bd_ok', v_add, v_sub, v_lt, v_le, v_gt, v_ge, v_is0, v_is1, v_eqI, v_neI, v_isII, v_isBI, List.map_cons, List.map_nil, List.cons_append, List.nil_append, List.append_nil, List.length_cons, List.length_nil, List.replicate, List.getElem?_cons_zero, List.getElem?_cons_succ, List.set_cons_zero, List.set_cons_succ, if_true, if_false, Nat.reduceAdd, Nat.reduceSub, Nat.reduceEqDiff, Bool.false_eq_true, Bool.not_true, Bool.not_false, decide_true, decide_false, and_self, bdC_ok, bdI_ok, bdM_ok, nx_ok, exI_ok, tView, dView, hz, e1, el]
    · rw [if_neg c]
      have c2 : ¬ ((acc.length + 1 : Nat) : Int) = 2500 := by omega
      simp only [sBreak, viewS, D.scal, runP, runF, runI, sSeq, sSet, sRet, sRetF, sRetN, sIf, sAsg, sPar, sPar3, sExpr, sNil, sNever, sPub, sOwn, sApp, sPut, dBin, dVar, dC, dTst, dNot, dAnd, dOr, vAnd, vOr, vNot, dIf, dTup, dLst, aNil, aCons, dCall, dCallU, dCallK, dCallI, dIsi, dOwnIx, gNm, gTp, gsNil, gsCons, iR1, iEn, iLst, dListZip, dRep, ownL, ownD, putL, putD, pubS, bd_ok', v_add, v_sub, v_lt, v_le, v_gt, v_ge, v_is0, v_is1, v_eqI, v_neI, v_isII, v_isBI, List.map_cons, List.map_nil, List.cons_append, List.nil_append, List.append_nil, List.length_cons, List.length_nil, List.replicate, List.getElem?_cons_zero, List.getElem?_cons_succ, List.set_cons_zero, List.set_cons_succ, if_true, if_false, Nat.reduceAdd, Nat.reduceSub, Nat.reduceEqDiff, Bool.false_eq_true, Bool.not_true, Bool.not_false, decide_true, decide_false, and_self, bdC_ok, bdI_ok, bdM_ok, nx_ok, exI_ok, tView, dView, hz, e1, el, c2]) ((List.range 2500).map fun i => Bm (0 + i)) [] .un (by
        intro z
        have := congrArg List.length z
        rw [List.length_map, List.length_range] at this
        cases this) (by rw [List.length_map, List.length_range]; rfl)
  rw [List.nil_append] at ef
  refine ⟨z, ?_⟩
  have e3 : ((List.range 2500).map fun i => Bm (0 + i)) = (List.range 2500).map Bm := List.map_congr_left fun i _ => by rw [Nat.zero_add]
  have := forG_eq (fa := gArgs 1 [.int 0] aNil) (m := 2) px_bm (n := 2500) (by decide) (s := [.val ns, .own (.lst []), .un, .un, .un, .un, .un, .un]) (s1 := [.val ns, .own (.lst []), .un, .un, .un, .un, .un, .un]) (ds := [.int 0]) rfl (e_bmk 0 2499 b1) rfl ef rfl
  rw [e3] at this
  exact this
theorem law_true (ns : List Int) (h : ns.length ≤ 63) : f_law [.lst (ns.map D.int)] = ok (.bl true) := by
  have c0 : (iD ns).length + (0 + 1) ≤ sizeLine := by
    rw [List.length_map]
    show _ ≤ 2 ^ 24
    omega
  obtain ⟨z, e0⟩ := e_first (.lst (iD ns))
  have hr : rngOk (2500 : Int) := by decide
  have er : rangeD 0 (2500 : Int).toNat = iN (List.range 2500) := rangeD_iN 2500
  have b1 : (2500 : Nat) < 2 ^ 300 := Nat.lt_of_lt_of_le (show 2500 < 2 ^ 12 by decide) (Nat.pow_le_pow_right (by decide) (by decide))
  have c1 := comp_all 3 (dCallU 1 f__law_member [] (aCons (dVar 3) aNil)) Bm [.val (.lst (iD ns)), .val (.lst (iN ((List.range 2500).map Bm))), z, .un, .un, .un, .un, .un] (fun _ => rfl) (List.range 2500) fun k hk => by
    have e := e_lmem k (by have := List.mem_range.mp hk; omega)
    simp only [runP, runF, runI, sSeq, sSet, sRet, sRetF, sRetN, sIf, sAsg, sPar, sPar3, sExpr, sNil, sNever, sPub, sOwn, sApp, sPut, dBin, dVar, dC, dTst, dNot, dAnd, dOr, vAnd, vOr, vNot, dIf, dTup, dLst, aNil, aCons, dCall, dCallU, dCallK, dCallI, dIsi, dOwnIx, gNm, gTp, gsNil, gsCons, iR1, iEn, iLst, dListZip, dRep, ownL, ownD, putL, putD, pubS, bd_ok', v_add, v_sub, v_lt, v_le, v_gt, v_ge, v_is0, v_is1, v_eqI, v_neI, v_isII, v_isBI, List.map_cons, List.map_nil, List.cons_append, List.nil_append, List.append_nil, List.length_cons, List.length_nil, List.replicate, List.getElem?_cons_zero, List.getElem?_cons_succ, List.set_cons_zero, List.set_cons_succ, if_true, if_false, Nat.reduceAdd, Nat.reduceSub, Nat.reduceEqDiff, Bool.false_eq_true, Bool.not_true, Bool.not_false, decide_true, decide_false, and_self, bdC_ok, bdI_ok, bdM_ok, nx_ok, exI_ok, tView, dView, e]
  have lz : (iN (List.range 2500)).length ≤ sizeLine := by
    rw [List.length_map, List.length_map, List.length_range]
    exact Nat.le_of_lt (szl2 (by decide))
  have ev := v_neL (((List.range 2500).map Bm).map fun (k : Nat) => (k : Int)) (((List.range 2500).map Bm).map fun (k : Nat) => (k : Int))
  rw [decide_eq_true rfl] at ev
  obtain ⟨ms, ec, hm⟩ := cut_iD (ns ++ [0]) none (some 6)
  have ea : iD ns ++ [.int 0] = iD (ns ++ [0]) := by simp
  obtain ⟨s', eL, x4, x5, x6, x7, rfl⟩ := forL_inv (T := gTp (gsCons (gNm 4) (gsCons (gNm 5) gsNil))) (F := outer) (fun i s => ∃ (x4 x5 x6 x7 : Sl), s = [.val (.lst (iD ns)), .val (.lst (iN ((List.range 2500).map Bm))), z, .un, x4, x5, x6, x7]) (enumD 0 (iD ms)) 0 [.val (.lst (iD ns)), .val (.lst (iN ((List.range 2500).map Bm))), z, .un, .un, .un, .un, .un] ⟨_, _, _, _, rfl⟩ (by
    rintro i d s hi ⟨x4, x5, x6, x7, rfl⟩
    obtain ⟨e, h1, rfl⟩ := enum_at _ _ _ _ hi
    obtain ⟨h2, h3⟩ := List.getElem?_eq_some_iff.mp h1
    rw [List.getElem_map] at h3
    subst h3
    rw [List.length_map] at h2
    rw [List.length_append] at hm
    have hm : ms.length ≤ ns.length + 1 := hm
    obtain ⟨y6, y7, e3⟩ := e_outer (a := .val (.lst (iD ns))) (b := .val (.lst (iN ((List.range 2500).map Bm)))) (c := z) (e := .un) (x6 := x6) (x7 := x7) (k := 0 + i) (item := ms[i]) (by omega)
    exact ⟨_, _, rfl, e3, _, _, _, _, rfl⟩)
  have h1 : 0 + 1 ≤ sizeLine := by
    show 1 ≤ 2 ^ 24
    decide
  have h0 : 0 ≤ sizeLine := Nat.zero_le _
  have lcat : catL (.lst (iD ns)) (.lst [.int 0]) = ok (.lst (iD (ns ++ [0]))) := by
    unfold catL
    dsimp only
    rw [if_pos (show (iD ns).length + [D.int 0].length ≤ sizeLine from c0), ea]
  generalize (List.range 2500).map Bm = big at *
  simp only [f_law, b_law, sFor, dComp, wipeS, restS, keepV, dCutL, partNo, partAt, lcat, runP, runF, runI, sSeq, sSet, sRet, sRetF, sRetN, sIf, sAsg, sPar, sPar3, sExpr, sNil, sNever, sPub, sOwn, sApp, sPut, dBin, dVar, dC, dTst, dNot, dAnd, dOr, vAnd, vOr, vNot, dIf, dTup, dLst, aNil, aCons, dCall, dCallU, dCallK, dCallI, dIsi, dOwnIx, gNm, gTp, gsNil, gsCons, iR1, iEn, iLst, dListZip, dRep, ownL, ownD, putL, putD, pubS, bd_ok', v_add, v_sub, v_lt, v_le, v_gt, v_ge, v_is0, v_is1, v_eqI, v_neI, v_isII, v_isBI, List.map_cons, List.map_nil, List.cons_append, List.nil_append, List.append_nil, List.length_cons, List.length_nil, List.replicate, List.getElem?_cons_zero, List.getElem?_cons_succ, List.set_cons_zero, List.set_cons_succ, if_true, if_false, Nat.reduceAdd, Nat.reduceSub, Nat.reduceEqDiff, Bool.false_eq_true, Bool.not_true, Bool.not_false, decide_true, decide_false, and_self, bdC_ok, bdI_ok, bdM_ok, nx_ok, exI_ok, tView, dView, h0, e0, hr, er, lz, c1, ev, ec, eL, h1]
end Tf
end
namespace Tf
open PySem PySem.Spec PyProof.Rows L2 Dt
theorem facts {P : Program} {w : World} {K : PySem.W.Frag} {h : Heap} {mg : Str → Option Value} {f : Addr} (X : K.In h) (G : h.Ns mainGlobals mg) (hfa : mg ("law" : Str) = some (.ref f)) (c : SaysC fa fn ex K) :
    ∃ fd : FuncData, (∀ (s : Shared) (v : Value), BindsTo s fd ⟨[v], []⟩ [("_law_script", v)]) ∧ ∀ base : Heap, K.In base → base.Ns mainGlobals mg → ∃ k, k ≤ 20 ∧ FnG P w K mg base (L2.CX P w) k f fd ["_law_script"] (spP K (cl0 K) 1 f_law) := by
  have Z := ctx_of X G c
  obtain ⟨fd, F⟩ : ∃ fd, D_law K fd := c.def_ 24 rfl
  have e := hfa.symm.trans (Z.glo "law" (by decide))
  cases e
  have b := FunD.bindsA (ps := ["_law_script"]) F fun _ _ _ _ _ _ us hl => match us, hl with | [_], _ => rfl
  exact ⟨fd, fun s v => b s [v] rfl, fun base _ _ => ⟨_, by decide, ok_law Z F⟩⟩
end Tf
open PyProof.Rows PySem PySem.W PySem.Calls
theorem PySem.Challenge.cw_triplefree_k01_members_and_ranks_holds : PySem.Challenge.rw_triplefree_k01_members_and_ranks.Holds := by
  w_on; o_law
  refine HandSHeadRun.head_any (r := OpenLaw.row PySem.Challenge.rw_triplefree_k01_members_and_ranks) (q := view (OpenLaw.row PySem.Challenge.rw_triplefree_k01_members_and_ranks).prog [29]) (H := Tf.hk) (ob := Tf.ob) (M := 4000) (loose := Tf.loose) (d := HandSHeadRun.topDef (OpenLaw.row PySem.Challenge.rw_triplefree_k01_members_and_ranks).prog 29) (kwd := []) Tf.ob_eq
    (by kernel_rfl) (fun s => by kernel_rfl) Tf.run (by kernel_rfl) (by kernel_rfl) (by kernel_rfl) (by rfl) (by first | assumption | decide +kernel) (by decide +kernel) ⟨rfl, rfl, rfl, rfl, rfl, by decide +kernel⟩ ?hw ?hc
  case hw => w_witness2
  case hc =>
    refine Dt.walk_G (l := PySem.Challenge.rw_triplefree_k01_members_and_ranks) (n := 63) (k := 20) (x := "_law_script") rfl (by decide) (by kernel_rfl) ⟨rfl, by decide, by decide⟩ ?F
    intro w mg fa h Y G hmg0
    obtain ⟨K, KX, c⟩ := Y
    have hmg
          : mg ("law" : PySem.Str) = some (.ref fa) := by
      have e : (HandSHeadRun.topDef (OpenLaw.row PySem.Challenge.rw_triplefree_k01_members_and_ranks).prog 29).name = ("law" : PySem.Str) := by kernel_rfl
      rw [← e]
      exact hmg0
    obtain ⟨fd, hb, hF⟩ := Tf.facts (P := (PySem.Challenge.rw_triplefree_k01_members_and_ranks).prog) (w := w) KX G hmg c
    exact ⟨K, fd, Tf.cl0 K, Tf.f_law, KX, hb, Tf.law_true, fun base h1 h2 => by
      obtain ⟨k, hk, F0⟩ := hF base h1 h2
      exact F0.mono hk⟩
