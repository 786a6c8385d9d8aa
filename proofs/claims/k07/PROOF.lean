import PyProof.Rows.All
import Wide.All
import OpenK.AllK
import Wide.FinOn
import HandS.ForExc
import HandS.ForMost
import HandS.Defaults
import HandS.IsInst
import HandS.Wide
import HandS.Flow
import HandS.Style
import HandS.Deep
import HandS.Zip
import HandS.Star
import HandS.SortInts
import HandS.Lambda
import HandS.TryMany
import HandS.ExcOwn
import HandS.ExcInit
import HandS.TupAny
import HandS.SetFor
import PyProof.Rows.SeqMore
import HandS.GenList
import KE.KDictZip
import KE.GoesEnum
import PyProof.ReprLen
import PyProof.ReprBulk
import HandS.Property
import HandS.HeadHook3
import KE.KExcInit
import HandS.ClsMeth
import HandS.ExcField
import HandS.ExcIs
import HandS.DictComp
import HandS.Codes
import HandS.HeadNt
import HandS.Conv
import HandS.Iter
import PyProof.Rows.Range3
import PyProof.ListRange
import KE.KExcIs
import KE.KTryMore
import HandS.HeadHook2
import KE.DataAny
import PyProof.InstNe
import HandS.OwnEq
import HandS.SortRule
import KE.KTupSum
import HandS.NoneIn
import KE.GoesZip
import PyProof.NeKinds
import HandS.More
import HandS.Dict
import HandS.TupMul
import KE.GoesMore
import KE.DataMinMax
import KE.KSuper
import HandS.Nested
import KE.KCallOwn
import KE.KParD
import KE.KUnpackStar
import HandS.ListItems
import KE.KDictList
import PyProof.SetRoads
import HandS.RaiseMore
import PyProof.RulesMatch
import HandS.EndTab
import HandS.SetBool
import HandS.FStr
import PyProof.DictTable
import PyProof.DictUpdate
import HandS.Head2
import PyProof.Rows.StrOr
import HandS.GenCall
import PyProof.ListMulRoad
import PyProof.AutoListH
import PyProof.CallFns
import KE.KStateDown
import HandS.Ends
import HandS.Words
import HandS.WordsExc
import HandS.MakeKwOnly
import HandS.Head0
import HandS.Head1
import HandS.HeadEnd
import HandS.HeadHook1
import PySem.Challenge.RW_triplefree_k07_ternary_objects
set_option Elab.async false
set_option linter.all false
set_option autoImplicit false
set_option maxRecDepth 100000
set_option maxHeartbeats 0
set_option exponentiation.threshold 10000
/-! Data-level layer: values as data, states as lists of slots. -/
namespace Dt
open L2 PySem PySem.Spec PyProof.Rows
/-! ### data -/
inductive D where
  | non
  | bl (b : Bool)
  | int (i : Int)
  | str (x : Str)
  | lst (xs : List D)
  | tup (xs : List D)
  | obj (c : Str) (fs : List D)
  | dic (ks : List Key) (vs : List D)
  | reg (xs : List D)
  | err (c : Str) (fs : List D)
  | cls (c : Str)
  | tab (q : Str)
  | fn (f c : Addr) (q : Str) (vs : List V) (ds : List D)
  | tz (ds : List D)
  | box (d : D)
/-- what is known of the classes: address, names of the fields in order -/
abbrev Cl := Str → Option (Addr × List Str)
/-- an exception that was caught -/
def eobj (a C : Addr) (d : Option Addr) : HO := .ext fun h => ∃ (oe : Obj) (vs : Array Value), h.get? a = some oe ∧ oe.cls = .ref C ∧ oe.dict = d ∧ oe.data = .fields vs
mutual
inductive Rp (K : PySem.W.Frag) (cl : Cl) (H : Hp) : V → D → Prop
  | non : Rp K cl H .non .non
  | bl (b : Bool) : Rp K cl H (.bl b) (.bl b)
  | int (i : Int) : Rp K cl H (.int i) (.int i)
  | str (x : Str) : Rp K cl H (.str x) (.str x)
  | lst {a : Addr} {xs : List V} {ds : List D} : SqL K H a xs → RpA K cl H xs ds → Rp K cl H (.ref a) (.lst ds)
  | tup {a : Addr} {xs : List V} {ds : List D} : SqT K H a xs → RpA K cl H xs ds → Rp K cl H (.ref a) (.tup ds)
  | obj {a C dx : Addr} {fvs : List (Str × V)} {c : Str} {names : List Str} {ds : List D} : cl c = some (C, names) → H a = some (.ins C dx fvs) → fvs.map (·.1) = names.take ds.length → RpA K cl H (fvs.map (·.2)) ds → Rp K cl H (.ref a) (.obj c ds)
  | dic {a : Addr} {kvs : List (Key × V)} {ks : List Key} {ds : List D} : Rd H a (.dK kvs) → kvs.map (·.1) = ks → RpA K cl H (kvs.map (·.2)) ds → Rp K cl H (.ref a) (.dic ks ds)
  | reg {a : Addr} {xs : List V} {ds : List D} : SqL K H a xs → RpA K cl H xs ds → Rp K cl H (.ref a) (.reg ds)
  | err {a C dd : Addr} {fvs : List (Str × V)} {c : Str} {names : List Str} {vs : List V} {ds : List D} : cl c = some (C, names) → H a = some (eobj a C (some dd)) → H dd = some (.xd fvs) → names.length = vs.length → (∀ (i : Nat) (f : Str), names[i]? = some f → fvs.lookup f = vs[i]?) → RpA K cl H vs ds → Rp K cl H (.ref a) (.err c ds)
  | cls {C : Addr} {c : Str} {names : List Str} : cl c = some (C, names) → Rp K cl H (.ref C) (.cls c)
  | tab {a : Addr} {q : Str} : Rp K cl H (.ref a) (.tab q)
  | fn {f c : Addr} {q : Str} {vs : List V} {ds : List D} : H c = some (LamX.CodeO c q) → RpA K cl H vs ds → Rp K cl H (.ref f) (.fn f c q vs ds)
  | tz {a : Addr} {ob : Obj} {xs : List V} {ds : List D} : H a = some (.frz ob (.tup xs)) → ob.cls = .type "tuple" → ob.dict = none → RpA K cl H xs ds → Rp K cl H (.ref a) (.tz ds)
inductive RpA (K : PySem.W.Frag) (cl : Cl) (H : Hp) : List V → List D → Prop
  | nil : RpA K cl H [] []
  | cons {v : V} {vs : List V} {d : D} {ds : List D} : Rp K cl H v d → RpA K cl H vs ds → RpA K cl H (v :: vs) (d :: ds)
end
theorem same_rd {H H' : Hp} (s : Same H H') {a : Addr} {u : HO} (h : Rd H a u) : Rd H' a u := by
  rcases h with h | ⟨o, h⟩
  · exact .inl (s _ _ h)
  · exact .inr ⟨o, s _ _ h⟩
theorem same_sqT {K : PySem.W.Frag} {H H' : Hp} (s : Same H H') {a : Addr} {xs : List V} (h : SqT K H a xs) : SqT K H' a xs := by
  rcases h with h | h
  · exact .inl (same_rd s h)
  · exact .inr h
mutual
theorem Rp.mono {K : PySem.W.Frag} {cl : Cl} {H H' : Hp} (s : Same H H') : ∀ {v : V} {d : D}, Rp K cl H v d → Rp K cl H' v d
  | _, _, .non => .non
  | _, _, .bl b => .bl b
  | _, _, .int i => .int i
  | _, _, .str x => .str x
  | _, _, .lst h r => .lst (s.seq h) (RpA.mono s r)
  | _, _, .tup h r => .tup (same_sqT s h) (RpA.mono s r)
  | _, _, .obj c h n r => .obj c (s _ _ h) n (RpA.mono s r)
  | _, _, .dic h n r => .dic (same_rd s h) n (RpA.mono s r)
  | _, _, .reg h r => .reg (s.seq h) (RpA.mono s r)
  | _, _, .err c h1 h2 l n r => .err c (s _ _ h1) (s _ _ h2) l n (RpA.mono s r)
  | _, _, .cls h => .cls h
  | _, _, .tab => .tab
  | _, _, .fn h r => .fn (s _ _ h) (RpA.mono s r)
  | _, _, .tz h c d r => .tz (s _ _ h) c d (RpA.mono s r)
theorem RpA.mono {K : PySem.W.Frag} {cl : Cl} {H H' : Hp} (s : Same H H') : ∀ {vs : List V} {ds : List D}, RpA K cl H vs ds → RpA K cl H' vs ds
  | _, _, .nil => .nil
  | _, _, .cons a b => .cons (Rp.mono s a) (RpA.mono s b)
end
section
variable {K : PySem.W.Frag} {cl : Cl} {H H' : Hp}
theorem RpA.len : ∀ {vs : List V} {ds : List D}, RpA K cl H vs ds → vs.length = ds.length
  | _, _, .nil => rfl
  | _, _, .cons _ r => congrArg (· + 1) r.len
theorem RpA.get : ∀ {vs : List V} {ds : List D} (i : Nat) {d : D}, RpA K cl H vs ds → ds[i]? = some d → ∃ v, vs[i]? = some v ∧ Rp K cl H v d
  | _, _, _, _, .nil, e => by (simp at e)
  | _, _, 0, _, .cons a _, e => by simp at e; subst e; exact ⟨_, rfl, a⟩
  | _, _, i + 1, _, .cons _ r, e => by
    obtain ⟨v, h1, h2⟩ := RpA.get i r (by simpa using e)
    exact ⟨v, by simpa using h1, h2⟩
theorem RpA.append : ∀ {vs ws : List V} {ds es : List D}, RpA K cl H vs ds → RpA K cl H ws es → RpA K cl H (vs ++ ws) (ds ++ es)
  | _, _, _, _, .nil, h => h
  | _, _, _, _, .cons a r, h => .cons a (r.append h)
theorem RpA.set : ∀ {vs : List V} {ds : List D} (i : Nat) {v : V} {d : D}, RpA K cl H vs ds → Rp K cl H v d → RpA K cl H (vs.set i v) (ds.set i d)
  | _, _, _, _, _, .nil, _ => .nil
  | _, _, 0, _, _, .cons _ r, h => .cons h r
  | _, _, i + 1, _, _, .cons a r, h => .cons a (r.set i h)
theorem RpA.take : ∀ {vs : List V} {ds : List D} (n : Nat), RpA K cl H vs ds → RpA K cl H (vs.take n) (ds.take n)
  | _, _, 0, _ => .nil
  | _, _, _ + 1, .nil => .nil
  | _, _, n + 1, .cons a r => .cons a (r.take n)
theorem RpA.drop : ∀ {vs : List V} {ds : List D} (n : Nat), RpA K cl H vs ds → RpA K cl H (vs.drop n) (ds.drop n)
  | _, _, 0, r => r
  | _, _, _ + 1, .nil => .nil
  | _, _, n + 1, .cons _ r => r.drop n
theorem RpA.rev : ∀ {vs : List V} {ds : List D}, RpA K cl H vs ds → RpA K cl H vs.reverse ds.reverse
  | _, _, .nil => .nil
  | _, _, .cons a r => by
    (rw [List.reverse_cons, List.reverse_cons])
    exact r.rev.append (.cons a .nil)
theorem RpA.two {vs : List V} {d e : D} (h : RpA K cl H vs [d, e]) : ∃ v w, vs = [v, w] ∧ Rp K cl H v d ∧ Rp K cl H w e := by
  cases h with
  | cons a r =>
    cases r with
    | cons b q =>
      cases q
      exact ⟨_, _, rfl, a, b⟩
theorem RpA.one {vs : List V} {d : D} (h : RpA K cl H vs [d]) : ∃ v, vs = [v] ∧ Rp K cl H v d := by
  cases h with
  | cons a r =>
    cases r
    exact ⟨_, rfl, a⟩
theorem RpA.ints : ∀ {vs : List V} {ns : List Int}, RpA K cl H vs (ns.map D.int) → vs = ns.map V.int
  | _, [], h => by cases h; rfl
  | _, n :: ns, h => by
    cases h with
    | cons a r =>
      cases a
      rw [r.ints]
      rfl
end
/-- a value that leans on no object -/
def D.scal : D → Bool
  | .non => true
  | .bl _ => true
  | .int _ => true
  | .str _ => true
  | _ => false
theorem Rp.scal {K : PySem.W.Frag} {cl : Cl} {H H' : Hp} {v : V} {d : D} (h : Rp K cl H v d) (s : d.scal = true) : Rp K cl H' v d := by
  cases h with
  | non => exact .non
  | bl b => exact .bl b
  | int i => exact .int i
  | str x => exact .str x
  | lst _ _ => cases s
  | tup _ _ => cases s
  | obj _ _ _ _ => cases s
  | dic _ _ _ => cases s
  | reg _ _ => cases s
  | err _ _ _ _ _ _ => cases s
  | cls _ => cases s
  | tab => cases s
  | fn _ _ => cases s
  | tz _ _ _ _ => cases s
/-! ### hidden addresses -/
def hide (O : List Addr) (H : Hp) : Hp := fun a => if a ∈ O then none else H a
theorem hide_some {O : List Addr} {H : Hp} {a : Addr} {o : HO} : hide O H a = some o ↔ a ∉ O ∧ H a = some o := by
  unfold hide
  by_cases h : a ∈ O
  · simp [h]
  · simp [h]
theorem hide_le {O : List Addr} {H : Hp} : Same (hide O H) H := fun _ _ h => (hide_some.mp h).2
theorem hide_sub {O O' : List Addr} {H : Hp} (h : ∀ a ∈ O', a ∈ O) : Same (hide O H) (hide O' H) := fun _ _ e =>
  let ⟨n, e⟩ := hide_some.mp e
  hide_some.mpr ⟨fun z => n (h _ z), e⟩
/-! ### states -/
/-- a slot: no value known; a value; a list or dict of the def's own; the argument that is changed for the caller -/
inductive Sl where
  | un
  | val (d : D)
  | own (d : D)
  | io (d : D)
  | tre (b : Nat) (d : D)
abbrev S := List Sl
/-! ### results -/
/-- an exception: the class's name, the fields -/
structure Ex where
  c : Str
  fs : List D
inductive Rs (α : Type) where
  | ok (a : α)
  | ex (e : Ex) (s : S)
abbrev M (α : Type) := Option (Rs α)
def ok {α : Type} (a : α) : M α := some (.ok a)
def exc {α : Type} (e : Ex) (s : S) : M α := some (.ex e s)
def bd {α β : Type} (m : M α) (f : α → M β) : M β :=
  match m with
  | none => none
  | some (.ex e s) => some (.ex e s)
  | some (.ok a) => f a
/-- what a call gives: an exception is in the caller's air -/
def bdC {α β : Type} (m : M α) (s : S) (f : α → M β) : M β :=
  match m with
  | none => none
  | some (.ex e _) => some (.ex e s)
  | some (.ok a) => f a
def OwnAt (K : PySem.W.Frag) (cl : Cl) (h0 : Hp) (O : List Addr) (H : Hp) (a : Addr) : D → Prop
  | .lst ds => ∃ xs, H a = some (.lst xs) ∧ RpA K cl (hide O H) xs ds
  | .dic ks ds => ∃ kvs, H a = some (.dK kvs) ∧ kvs.map (·.1) = ks ∧ RpA K cl (hide O H) (kvs.map (·.2)) ds
  | .obj c ds => ∃ C names dx fvs, cl c = some (C, names) ∧ H a = some (.ins C dx fvs) ∧ fvs.map (·.1) = names.take ds.length ∧ RpA K cl (hide O H) (fvs.map (·.2)) ds
  | .reg ds => ∃ as : List Addr, H a = some (.lst (as.map V.ref)) ∧ as.Nodup ∧ (∀ b ∈ as, h0 b = none ∧ ∃ kvs, hide O H b = some (.dK kvs)) ∧ RpA K cl (hide O H) (as.map V.ref) ds
  | .tab q => (∃ ns, cl q = some (a, ns)) ∧ ∃ ps : Array Value, H a = some (.tbl ps) ∧ TriplesOk ps.toList ∧ ∀ (pos : Pos) (cv : Value), codeAmong pos ps.toList = some cv → ∃ c, cv = .ref c ∧ hide O H c = some (LamX.CodeO c q)
  | _ => False
theorem OwnAt.some {K : PySem.W.Frag} {cl : Cl} {h0 : Hp} {O : List Addr} {H : Hp} {a : Addr} {d : D} (h : OwnAt K cl h0 O H a d) : H a ≠ none := by
  cases d with
  | lst ds => obtain ⟨xs, e, _⟩ := h; rw [e]; simp
  | dic ks ds => obtain ⟨xs, e, _⟩ := h; rw [e]; simp
  | obj c ds => obtain ⟨_, _, _, _, _, e, _⟩ := h; rw [e]; simp
  | reg ds => obtain ⟨_, e, _⟩ := h; rw [e]; simp
  | tab q => obtain ⟨_, _, e, _⟩ := h; rw [e]; simp
  | _ => exact h.elim
theorem OwnAt.move {K : PySem.W.Frag} {cl : Cl} {h0 : Hp} {O O' : List Addr} {H H' : Hp} {a : Addr} {d : D} (h : OwnAt K cl h0 O H a d) (e : H' a = H a) (s : Same (hide O H) (hide O' H')) : OwnAt K cl h0 O' H' a d := by
  cases d with
  | lst ds => obtain ⟨xs, e1, r⟩ := h; exact ⟨xs, e.trans e1, r.mono s⟩
  | dic ks ds => obtain ⟨xs, e1, n, r⟩ := h; exact ⟨xs, e.trans e1, n, r.mono s⟩
  | obj c ds => obtain ⟨C, ns, dx, fvs, k, e1, n, r⟩ := h; exact ⟨C, ns, dx, fvs, k, e.trans e1, n, r.mono s⟩
  | reg ds => obtain ⟨as, e1, n, f, r⟩ := h; exact ⟨as, e.trans e1, n, fun b hb => ⟨(f b hb).1, (f b hb).2.imp fun _ z => s _ _ z⟩, r.mono s⟩
  | tab q => obtain ⟨k, ps, e1, t, r⟩ := h; exact ⟨k, ps, e.trans e1, t, fun pos cv z => let ⟨c, y1, y2⟩ := r pos cv z; ⟨c, y1, s _ _ y2⟩⟩
  | _ => exact h.elim
/-- as a value, if it is seen -/
theorem OwnAt.rp {K : PySem.W.Frag} {cl : Cl} {h0 : Hp} {O O' : List Addr} {H : Hp} {a : Addr} {d : D} (h : OwnAt K cl h0 O H a d) (n : a ∉ O') (s : Same (hide O H) (hide O' H)) : Rp K cl (hide O' H) (.ref a) d := by
  cases d with
  | lst ds => obtain ⟨xs, e1, r⟩ := h; exact .lst (.inl (.inl (hide_some.mpr ⟨n, e1⟩))) (r.mono s)
  | dic ks ds => obtain ⟨xs, e1, q, r⟩ := h; exact .dic (.inl (hide_some.mpr ⟨n, e1⟩)) q (r.mono s)
  | obj c ds => obtain ⟨C, ns, dx, fvs, k, e1, q, r⟩ := h; exact .obj k (hide_some.mpr ⟨n, e1⟩) q (r.mono s)
  | reg ds => obtain ⟨as, e1, q, f, r⟩ := h; exact .reg (.inl (.inl (hide_some.mpr ⟨n, e1⟩))) (r.mono s)
  | tab q => exact .tab
  | _ => exact h.elim
/-- new for the one, new for the other -/
theorem OwnAt.old {K : PySem.W.Frag} {cl : Cl} {h0 h1 : Hp} {O : List Addr} {H : Hp} {a : Addr} {d : D} (h : OwnAt K cl h0 O H a d) (s : ∀ b, h0 b = none → h1 b = none) : OwnAt K cl h1 O H a d := by
  cases d with
  | reg ds => obtain ⟨as, e1, q, f, r⟩ := h; exact ⟨as, e1, q, fun b hb => ⟨s b (f b hb).1, (f b hb).2⟩, r⟩
  | _ => exact h
def D.isReg : D → Bool
  | .reg _ => true
  | _ => false
theorem OwnAt.any {K : PySem.W.Frag} {cl : Cl} {h0 h1 : Hp} {O : List Addr} {H : Hp} {a : Addr} {d : D} (h : OwnAt K cl h0 O H a d) (s : d.isReg = false) : OwnAt K cl h1 O H a d := by
  cases d with
  | reg ds => cases s
  | _ => exact h
/-! ### trees: objects whose parts are one's own, too (boxes) -/
mutual
def bare : D → D
  | .lst ds => .lst (bareA ds)
  | .dic ks ds => .dic ks (bareA ds)
  | .obj c ds => .obj c (bareA ds)
  | d => d
def bareC : D → D
  | .box d => bare d
  | d => d
def bareA : List D → List D
  | [] => []
  | d :: ds => bareC d :: bareA ds
end
mutual
/-- a tree: its addresses, where it stands, its data; g: the heap that is seen -/
inductive Tr (K : PySem.W.Frag) (cl : Cl) (g H : Hp) : List Addr → V → D → Prop
  | lst {a : Addr} {fp : List Addr} {xs : List V} {ds : List D} : H a = some (.lst xs) → TrA K cl g H fp xs ds → Tr K cl g H (a :: fp) (.ref a) (.lst ds)
  | dic {a : Addr} {fp : List Addr} {kvs : List (Key × V)} {ks : List Key} {ds : List D} : H a = some (.dK kvs) → kvs.map (·.1) = ks → TrA K cl g H fp (kvs.map (·.2)) ds → Tr K cl g H (a :: fp) (.ref a) (.dic ks ds)
  | obj {a C dx : Addr} {fp : List Addr} {fvs : List (Str × V)} {c : Str} {names : List Str} {ds : List D} : cl c = some (C, names) → H a = some (.ins C dx fvs) → fvs.map (·.1) = names.take ds.length → TrA K cl g H fp (fvs.map (·.2)) ds → Tr K cl g H (a :: fp) (.ref a) (.obj c ds)
inductive TrC (K : PySem.W.Frag) (cl : Cl) (g H : Hp) : List Addr → V → D → Prop
  | sh {v : V} {d : D} : Rp K cl g v d → TrC K cl g H [] v d
  | box {fp : List Addr} {v : V} {d : D} : Tr K cl g H fp v d → TrC K cl g H fp v (.box d)
inductive TrA (K : PySem.W.Frag) (cl : Cl) (g H : Hp) : List Addr → List V → List D → Prop
  | nil : TrA K cl g H [] [] []
  | cons {f1 f2 : List Addr} {v : V} {vs : List V} {d : D} {ds : List D} : TrC K cl g H f1 v d → TrA K cl g H f2 vs ds → TrA K cl g H (f1 ++ f2) (v :: vs) (d :: ds)
end
section
variable {K : PySem.W.Frag} {cl : Cl} {g g' H H' : Hp}
mutual
theorem Tr.map (s : ∀ (v : V) (d : D), Rp K cl g v d → Rp K cl g' v d) : ∀ {fp : List Addr} {v : V} {d : D}, Tr K cl g H fp v d → (∀ x ∈ fp, H' x = H x) → Tr K cl g' H' fp v d
  | _, _, _, .lst h r, e => .lst ((e _ List.mem_cons_self).trans h) (TrA.map s r fun x hx => e x (List.mem_cons_of_mem _ hx))
  | _, _, _, .dic h n r, e => .dic ((e _ List.mem_cons_self).trans h) n (TrA.map s r fun x hx => e x (List.mem_cons_of_mem _ hx))
  | _, _, _, .obj c h n r, e => .obj c ((e _ List.mem_cons_self).trans h) n (TrA.map s r fun x hx => e x (List.mem_cons_of_mem _ hx))
theorem TrC.map (s : ∀ (v : V) (d : D), Rp K cl g v d → Rp K cl g' v d) : ∀ {fp : List Addr} {v : V} {d : D}, TrC K cl g H fp v d → (∀ x ∈ fp, H' x = H x) → TrC K cl g' H' fp v d
  | _, _, _, .sh r, _ => .sh (s _ _ r)
  | _, _, _, .box r, e => .box (Tr.map s r e)
theorem TrA.map (s : ∀ (v : V) (d : D), Rp K cl g v d → Rp K cl g' v d) : ∀ {fp : List Addr} {vs : List V} {ds : List D}, TrA K cl g H fp vs ds → (∀ x ∈ fp, H' x = H x) → TrA K cl g' H' fp vs ds
  | _, _, _, .nil, _ => .nil
  | _, _, _, .cons a r, e => .cons (TrC.map s a fun x hx => e x (List.mem_append_left _ hx)) (TrA.map s r fun x hx => e x (List.mem_append_right _ hx))
end
theorem Tr.move (s : Same g g') {fp : List Addr} {v : V} {d : D} (h : Tr K cl g H fp v d) (e : ∀ x ∈ fp, H' x = H x) : Tr K cl g' H' fp v d := h.map (fun _ _ r => r.mono s) e
mutual
theorem Tr.some : ∀ {fp : List Addr} {v : V} {d : D}, Tr K cl g H fp v d → ∀ x ∈ fp, H x ≠ none
  | _, _, _, .lst h r => fun x hx => by
    (rcases List.mem_cons.mp hx with rfl | hx)
    · rw [h]; simp
    · exact TrA.some r x hx
  | _, _, _, .dic h n r => fun x hx => by
    (rcases List.mem_cons.mp hx with rfl | hx)
    · rw [h]; simp
    · exact TrA.some r x hx
  | _, _, _, .obj c h n r => fun x hx => by
    (rcases List.mem_cons.mp hx with rfl | hx)
    · rw [h]; simp
    · exact TrA.some r x hx
theorem TrC.some : ∀ {fp : List Addr} {v : V} {d : D}, TrC K cl g H fp v d → ∀ x ∈ fp, H x ≠ none
  | _, _, _, .sh r => fun x hx => by simp at hx
  | _, _, _, .box r => Tr.some r
theorem TrA.some : ∀ {fp : List Addr} {vs : List V} {ds : List D}, TrA K cl g H fp vs ds → ∀ x ∈ fp, H x ≠ none
  | _, _, _, .nil => fun x hx => by simp at hx
  | _, _, _, .cons a r => fun x hx => (List.mem_append.mp hx).elim (TrC.some a x) (TrA.some r x)
end
theorem bareC_of {d : D} {v : V} (h : Rp K cl g v d) : bareC d = d := by
  cases h <;> rfl
theorem bareA_len : ∀ ds : List D, (bareA ds).length = ds.length
  | [] => rfl
  | d :: ds => by rw [bareA, List.length_cons, List.length_cons, bareA_len ds]
mutual
/-- a tree that is seen is a value -/
theorem Tr.rp {O : List Addr} (s : Same g (hide O H)) : ∀ {fp : List Addr} {v : V} {d : D}, Tr K cl g H fp v d → (∀ x ∈ fp, x ∉ O) → Rp K cl (hide O H) v (bare d)
  | _, _, .lst ds, .lst h r, n => by
    rw [bare]
    exact .lst (.inl (.inl (hide_some.mpr ⟨n _ List.mem_cons_self, h⟩))) (TrA.rp s r fun x hx => n x (List.mem_cons_of_mem _ hx))
  | _, _, .dic ks ds, .dic h q r, n => by
    rw [bare]
    exact .dic (.inl (hide_some.mpr ⟨n _ List.mem_cons_self, h⟩)) q (TrA.rp s r fun x hx => n x (List.mem_cons_of_mem _ hx))
  | _, _, .obj c ds, .obj k h q r, n => by
    rw [bare]
    exact .obj k (hide_some.mpr ⟨n _ List.mem_cons_self, h⟩) (by rw [bareA_len]; exact q) (TrA.rp s r fun x hx => n x (List.mem_cons_of_mem _ hx))
theorem TrC.rp {O : List Addr} (s : Same g (hide O H)) : ∀ {fp : List Addr} {v : V} {d : D}, TrC K cl g H fp v d → (∀ x ∈ fp, x ∉ O) → Rp K cl (hide O H) v (bareC d)
  | _, _, d, .sh r, n => by
    rw [bareC_of r]
    exact r.mono s
  | _, _, .box d, .box r, n => by
    rw [bareC]
    exact Tr.rp s r n
theorem TrA.rp {O : List Addr} (s : Same g (hide O H)) : ∀ {fp : List Addr} {vs : List V} {ds : List D}, TrA K cl g H fp vs ds → (∀ x ∈ fp, x ∉ O) → RpA K cl (hide O H) vs (bareA ds)
  | _, _, _, .nil, _ => by
    rw [bareA]
    exact .nil
  | _, _, _, .cons a r, n => by
    rw [bareA]
    exact .cons (TrC.rp s a fun x hx => n x (List.mem_append_left _ hx)) (TrA.rp s r fun x hx => n x (List.mem_append_right _ hx))
end
theorem no_box {v : V} {d : D} (h : Rp K cl g v (.box d)) : False := by cases h
mutual
/-- the addresses are told by the heap and the data -/
theorem Tr.uniq : ∀ {fp fq : List Addr} {v : V} {d : D}, Tr K cl g H fp v d → Tr K cl g' H fq v d → fp = fq
  | _, _, _, _, .lst h r, .lst h' r' => by
    rw [h] at h'; cases h'
    rw [TrA.uniq r r']
  | _, _, _, _, .dic h n r, .dic h' n' r' => by
    rw [h] at h'; cases h'
    rw [TrA.uniq r r']
  | _, _, _, _, .obj c h n r, .obj c' h' n' r' => by
    rw [h] at h'; cases h'
    rw [TrA.uniq r r']
theorem TrC.uniq : ∀ {fp fq : List Addr} {v : V} {d : D}, TrC K cl g H fp v d → TrC K cl g' H fq v d → fp = fq
  | _, _, _, _, .sh r, .sh r' => rfl
  | _, _, _, .box d, .sh r, .box r' => (no_box r).elim
  | _, _, _, .box d, .box r, .sh r' => (no_box r').elim
  | _, _, _, _, .box r, .box r' => Tr.uniq r r'
theorem TrA.uniq : ∀ {fp fq : List Addr} {vs : List V} {ds : List D}, TrA K cl g H fp vs ds → TrA K cl g' H fq vs ds → fp = fq
  | _, _, _, _, .nil, .nil => rfl
  | _, _, _, _, .cons a r, .cons a' r' => by rw [TrC.uniq a a', TrA.uniq r r']
end
theorem Tr.root {fp : List Addr} {v : V} {d : D} (h : Tr K cl g H fp v d) : ∃ a, v = .ref a ∧ a ∈ fp := by
  cases h <;> exact ⟨_, rfl, List.mem_cons_self⟩
end
/-- where the def stands: hidden addresses, the addresses that may be changed, the one that is the argument's, the heap at the entry -/
structure Wf where
  O0 : List Addr
  I : List Addr
  a0 : Addr
  H0 : Hp
/-- where the tree of an argument stands; from 3 on the flag tells it -/
def adr (w : Wf) (b : Nat) : Addr := if b < 3 then w.a0 else w.I.headD 0
theorem adr_eq {w w' : Wf} {b : Nat} (h : w.a0 = w'.a0) (hI : w.I = w'.I) : adr w b = adr w' b := by
  unfold adr
  rw [h, hI]
/-- changed in place, nothing new in it -/
def Inp (b : Nat) : Prop := b = 1 ∨ 3 ≤ b
instance (b : Nat) : Decidable (Inp b) := by unfold Inp; infer_instance
/-- the trees of a state: each has its addresses -/
structure TrOK (K : PySem.W.Frag) (cl : Cl) (w : Wf) (L : List Addr) (H : Hp) (σ : L2.St) (sd : S) : Prop where
  ex : ∃ F : Nat → List Addr,
    (∀ (i : Nat) (b : Nat) (d : D), sd[i]? = some (.tre b d) → ∃ a, σ[i]? = some (some (.ref a)) ∧ (b ≠ 0 → a = adr w b) ∧ Tr K cl (hide (L ++ w.O0) H) H (F i) (.ref a) d ∧ (F i).Nodup ∧ (∀ x ∈ F i, x ∈ L ∨ x ∈ w.I) ∧ (Inp b → ∀ x ∈ F i, x ∈ w.I) ∧ (b = 0 → ∀ x ∈ F i, x ∉ w.I)) ∧
    (∀ (i j : Nat) (b c : Nat) (d e : D), sd[i]? = some (.tre b d) → sd[j]? = some (.tre c e) → i ≠ j → ∀ x ∈ F i, x ∉ F j) ∧
    (∀ (i j : Nat) (b : Nat) (d e : D) (a : Addr), sd[i]? = some (.tre b d) → sd[j]? = some (.own e) → σ[j]? = some (some (.ref a)) → a ∉ F i) ∧
    (∀ (i j : Nat) (b : Nat) (d e : D), sd[i]? = some (.tre b d) → sd[j]? = some (.io e) → w.a0 ∉ F i)
theorem TrOK.none {K : PySem.W.Frag} {cl : Cl} {w : Wf} {L : List Addr} {H : Hp} {σ : L2.St} {sd : S} (h : ∀ (i : Nat) (b : Nat) (d : D), sd[i]? ≠ some (.tre b d)) : TrOK K cl w L H σ sd :=
  ⟨fun _ => [], fun i b d e => absurd e (h i b d), fun i j b c d e q => absurd q (h i b d), fun i j b d e a q => absurd q (h i b d), fun i j b d e q => absurd q (h i b d)⟩
/-- in some tree -/
def TrIn (K : PySem.W.Frag) (cl : Cl) (H : Hp) (σ : L2.St) (sd : S) (x : Addr) : Prop := ∃ (i : Nat) (b : Nat) (d : D) (a : Addr) (g : Hp) (fp : List Addr), sd[i]? = some (Sl.tre b d) ∧ σ[i]? = some (some (V.ref a)) ∧ Tr K cl g H fp (.ref a) d ∧ x ∈ fp
theorem TrOK.moveR {K : PySem.W.Frag} {cl : Cl} {w w' : Wf} {L L' : List Addr} {H H' : Hp} {σ σ' : L2.St} {sd sd' : S} (h : TrOK K cl w L H σ sd)
    (sh : ∀ (v : V) (d : D), Rp K cl (hide (L ++ w.O0) H) v d → Rp K cl (hide (L' ++ w'.O0) H') v d)
    (sl : ∀ (i : Nat) (b : Nat) (d : D), sd'[i]? = some (.tre b d) → sd[i]? = some (.tre b d) ∧ σ'[i]? = σ[i]? ∧ (b ≠ 0 → w'.a0 = w.a0))
    (ow : ∀ (j : Nat) (e : D) (a : Addr), sd'[j]? = some (.own e) → σ'[j]? = some (some (.ref a)) → (∃ (j' : Nat) (e' : D), sd[j']? = some (Sl.own e') ∧ σ[j']? = some (some (V.ref a))) ∨ (a ∉ L ∧ a ∉ w.I))
    (io : ∀ (j : Nat) (e : D), sd'[j]? = some (.io e) → w'.a0 = w.a0 ∧ ∃ (j' : Nat) (e' : D), sd[j']? = some (Sl.io e'))
    (fx : ∀ x, TrIn K cl H σ sd x → (x ∈ L ∨ x ∈ w.I) → (∀ (j : Nat) (e : D), sd[j]? = some (.own e) → σ[j]? ≠ some (some (.ref x))) → (∀ (j : Nat) (e : D), sd[j]? = some (.io e) → x ≠ w.a0) → H' x = H x ∧ (x ∈ L' ∨ x ∈ w'.I)) (hI : w.I = w'.I := by rfl) : TrOK K cl w' L' H' σ' sd' := by
  obtain ⟨F, h1, h2, h3, h4⟩ := h.ex
  have mem : ∀ {i b d}, sd[i]? = some (.tre b d) → ∀ x ∈ F i, H' x = H x ∧ (x ∈ L' ∨ x ∈ w'.I) := fun {i b d} q x hx => by
    obtain ⟨a, p1, _, p3, _, m, _⟩ := h1 i b d q
    exact fx x ⟨i, b, d, a, _, _, q, p1, p3, hx⟩ (m x hx) (fun j e q2 q3 => h3 i j b d e x q q2 q3 hx) fun j e q2 z => h4 i j b d e q q2 (z ▸ hx)
  refine ⟨F, fun i b d q => ?_, fun i j b c d e q q2 => h2 i j b c d e (sl i b d q).1 (sl j c e q2).1, fun i j b d e a q q2 q3 => ?_, fun i j b d e q q2 => ?_⟩
  · obtain ⟨s1, s2, s3⟩ := sl i b d q
    obtain ⟨a, k1, k2, k3, k4, k5, k6, k7⟩ := h1 i b d s1
    exact ⟨a, s2.trans k1, fun z => (k2 z).trans (adr_eq (s3 z).symm hI), k3.map sh fun x hx => (mem s1 x hx).1, k4, fun x hx => (mem s1 x hx).2, fun z x hx => hI ▸ k6 z x hx, fun z x hx y => k7 z x hx (hI.symm ▸ y)⟩
  · obtain ⟨s1, s2, s3⟩ := sl i b d q
    rcases ow j e a q2 q3 with ⟨j', e', p1, p2⟩ | ⟨p1, p2⟩
    · exact h3 i j' b d e' a s1 p1 p2
    · obtain ⟨_, _, _, _, _, m, _⟩ := h1 i b d s1
      exact fun z => (m a z).elim p1 p2
  · obtain ⟨s1, s2, s3⟩ := sl i b d q
    obtain ⟨p0, j', e', p1⟩ := io j e q2
    rw [p0]
    exact h4 i j' b d e' s1 p1
theorem TrOK.moveT {K : PySem.W.Frag} {cl : Cl} {w w' : Wf} {L L' : List Addr} {H H' : Hp} {σ σ' : L2.St} {sd sd' : S} (h : TrOK K cl w L H σ sd)
    (sh : Same (hide (L ++ w.O0) H) (hide (L' ++ w'.O0) H'))
    (sl : ∀ (i : Nat) (b : Nat) (d : D), sd'[i]? = some (.tre b d) → sd[i]? = some (.tre b d) ∧ σ'[i]? = σ[i]? ∧ (b ≠ 0 → w'.a0 = w.a0))
    (ow : ∀ (j : Nat) (e : D) (a : Addr), sd'[j]? = some (.own e) → σ'[j]? = some (some (.ref a)) → (∃ (j' : Nat) (e' : D), sd[j']? = some (Sl.own e') ∧ σ[j']? = some (some (V.ref a))) ∨ (a ∉ L ∧ a ∉ w.I))
    (io : ∀ (j : Nat) (e : D), sd'[j]? = some (.io e) → w'.a0 = w.a0 ∧ ∃ (j' : Nat) (e' : D), sd[j']? = some (Sl.io e'))
    (fx : ∀ x, TrIn K cl H σ sd x → (x ∈ L ∨ x ∈ w.I) → (∀ (j : Nat) (e : D), sd[j]? = some (.own e) → σ[j]? ≠ some (some (.ref x))) → (∀ (j : Nat) (e : D), sd[j]? = some (.io e) → x ≠ w.a0) → H' x = H x ∧ (x ∈ L' ∨ x ∈ w'.I)) (hI : w.I = w'.I := by rfl) : TrOK K cl w' L' H' σ' sd' :=
  h.moveR (fun _ _ r => r.mono sh) sl ow io fx hI
theorem TrOK.move {K : PySem.W.Frag} {cl : Cl} {w w' : Wf} {L L' : List Addr} {H H' : Hp} {σ σ' : L2.St} {sd sd' : S} (h : TrOK K cl w L H σ sd)
    (sh : Same (hide (L ++ w.O0) H) (hide (L' ++ w'.O0) H'))
    (sl : ∀ (i : Nat) (b : Nat) (d : D), sd'[i]? = some (.tre b d) → sd[i]? = some (.tre b d) ∧ σ'[i]? = σ[i]? ∧ (b ≠ 0 → w'.a0 = w.a0))
    (ow : ∀ (j : Nat) (e : D) (a : Addr), sd'[j]? = some (.own e) → σ'[j]? = some (some (.ref a)) → (∃ (j' : Nat) (e' : D), sd[j']? = some (Sl.own e') ∧ σ[j']? = some (some (V.ref a))) ∨ (a ∉ L ∧ a ∉ w.I))
    (io : ∀ (j : Nat) (e : D), sd'[j]? = some (.io e) → w'.a0 = w.a0 ∧ ∃ (j' : Nat) (e' : D), sd[j']? = some (Sl.io e'))
    (fx : ∀ x, (x ∈ L ∨ x ∈ w.I) → (∀ (j : Nat) (e : D), sd[j]? = some (.own e) → σ[j]? ≠ some (some (.ref x))) → (∀ (j : Nat) (e : D), sd[j]? = some (.io e) → x ≠ w.a0) → H' x = H x ∧ (x ∈ L' ∨ x ∈ w'.I)) (hI : w.I = w'.I := by rfl) : TrOK K cl w' L' H' σ' sd' :=
  h.moveT sh sl ow io (fun x _ => fx x) hI
theorem TrOK.inn {K : PySem.W.Frag} {cl : Cl} {w : Wf} {L : List Addr} {H : Hp} {σ : L2.St} {sd : S} (h : TrOK K cl w L H σ sd) {x : Addr} (t : TrIn K cl H σ sd x) : x ∈ L ∨ x ∈ w.I := by
  obtain ⟨F, h1, h2, h3, h4⟩ := h.ex
  obtain ⟨i, b, d, a, g, fp, q1, q2, q3, q4⟩ := t
  obtain ⟨a', k1, _, k3, _, k5, _⟩ := h1 i b d q1
  rw [q2] at k1
  cases k1
  rw [q3.uniq k3] at q4
  exact k5 x q4
/-- the same slots, the same values -/
theorem TrOK.same {K : PySem.W.Frag} {cl : Cl} {w w' : Wf} {L L' : List Addr} {H H' : Hp} {σ : L2.St} {sd : S} (h : TrOK K cl w L H σ sd)
    (sh : Same (hide (L ++ w.O0) H) (hide (L' ++ w'.O0) H')) (e0 : w'.a0 = w.a0)
    (fx : ∀ x, (x ∈ L ∨ x ∈ w.I) → (∀ (j : Nat) (e : D), sd[j]? = some (.own e) → σ[j]? ≠ some (some (.ref x))) → (∀ (j : Nat) (e : D), sd[j]? = some (.io e) → x ≠ w.a0) → H' x = H x ∧ (x ∈ L' ∨ x ∈ w'.I)) (hI : w.I = w'.I := by rfl) : TrOK K cl w' L' H' σ sd :=
  h.move sh (fun _ _ _ q => ⟨q, rfl, fun _ => e0⟩) (fun j e a q1 q2 => .inl ⟨j, e, q1, q2⟩) (fun j e q => ⟨e0, j, e, q⟩) fx hI
/-- some slots are set to values or wiped -/
theorem TrOK.put {K : PySem.W.Frag} {cl : Cl} {w : Wf} {L : List Addr} {H : Hp} {σ σ' : L2.St} {sd sd' : S} (h : TrOK K cl w L H σ sd)
    (get : ∀ (j : Nat) (x : Sl), sd'[j]? = some x → (∃ d, x = .val d) ∨ x = .un ∨ (sd[j]? = some x ∧ σ'[j]? = σ[j]?)) : TrOK K cl w L H σ' sd' := by
  refine h.move (fun _ _ e => e) (fun i b d q => ?_) (fun j e a q1 q2 => ?_) (fun j e q => ?_) fun x hx _ _ => ⟨rfl, hx⟩
  · rcases get i _ q with ⟨_, z⟩ | z | ⟨z1, z2⟩
    · cases z
    · cases z
    · exact ⟨z1, z2, fun _ => rfl⟩
  · rcases get j _ q1 with ⟨_, z⟩ | z | ⟨z1, z2⟩
    · cases z
    · cases z
    · exact .inl ⟨j, e, z1, z2 ▸ q2⟩
  · rcases get j _ q with ⟨_, z⟩ | z | ⟨z1, z2⟩
    · cases z
    · cases z
    · exact ⟨rfl, j, e, z1⟩
/-- a slot takes an own object; P: it is in no tree -/
theorem TrOK.setOwnP {K : PySem.W.Frag} {cl : Cl} {w : Wf} {L : List Addr} {H : Hp} {σ σ' : L2.St} {sd sd' : S} {p : Addr} (h : TrOK K cl w L H σ sd)
    (np : ∀ (i : Nat) (b : Nat) (d : D) (a : Addr) (g : Hp) (fp : List Addr), sd[i]? = some (.tre b d) → σ[i]? = some (some (.ref a)) → Tr K cl g H fp (.ref a) d → p ∉ fp)
    (get : ∀ (j : Nat) (x : Sl), sd'[j]? = some x → (∃ d, x = .own d ∧ σ'[j]? = some (some (.ref p))) ∨ (sd[j]? = some x ∧ σ'[j]? = σ[j]?)) : TrOK K cl w L H σ' sd' := by
  obtain ⟨F, h1, h2, h3, h4⟩ := h.ex
  have g1 : ∀ {i : Nat} {b : Nat} {d : D}, sd'[i]? = some (Sl.tre b d) → sd[i]? = some (Sl.tre b d) ∧ σ'[i]? = σ[i]? := fun {i b d} q => by
    rcases get i _ q with ⟨_, z, _⟩ | z
    · cases z
    · exact z
  refine ⟨F, fun i b d q => ?_, fun i j b c d e q q2 => h2 i j b c d e (g1 q).1 (g1 q2).1, fun i j b d e a q q2 q3 => ?_, fun i j b d e q q2 => ?_⟩
  · obtain ⟨s1, s2⟩ := g1 q
    rw [s2]
    exact h1 i b d s1
  · obtain ⟨s1, s2⟩ := g1 q
    rcases get j _ q2 with ⟨_, z, y⟩ | ⟨z, y⟩
    · rw [y] at q3
      cases q3
      obtain ⟨a', k1, _, k3, _⟩ := h1 i b d s1
      exact np i b d a' _ _ s1 k1 k3
    · exact h3 i j b d e a s1 z (y ▸ q3)
  · obtain ⟨s1, s2⟩ := g1 q
    rcases get j _ q2 with ⟨_, z, y⟩ | ⟨z, y⟩
    · cases z
    · exact h4 i j b d e s1 z
/-- what is not among the def's own is in no tree -/
theorem TrOK.out {K : PySem.W.Frag} {cl : Cl} {w : Wf} {L : List Addr} {H : Hp} {σ : L2.St} {sd : S} {p : Addr} (h : TrOK K cl w L H σ sd) (n1 : p ∉ L) (n2 : p ∉ w.I) :
    ∀ (i : Nat) (b : Nat) (d : D) (a : Addr) (g : Hp) (fp : List Addr), sd[i]? = some (.tre b d) → σ[i]? = some (some (.ref a)) → Tr K cl g H fp (.ref a) d → p ∉ fp := fun i b d a g fp q1 q2 q3 z => by
  obtain ⟨F, h1, h2, h3, h4⟩ := h.ex
  obtain ⟨a', k1, _, k3, _, k5, _⟩ := h1 i b d q1
  rw [q2] at k1
  cases k1
  rw [q3.uniq k3] at z
  exact (k5 p z).elim n1 n2
theorem same_at {H H' : Hp} (s : Same H H') {x : Addr} (h : H x ≠ none) : H' x = H x := by
  cases q : H x with
  | none => exact absurd q h
  | some o => exact s x o q
structure StOK (K : PySem.W.Frag) (cl : Cl) (w : Wf) (L : List Addr) (H : Hp) (σ : L2.St) (sd : S) : Prop where
  val : ∀ (i : Nat) (d : D), sd[i]? = some (.val d) → ∃ v, σ[i]? = some (some v) ∧ Rp K cl (hide (L ++ w.O0) H) v d
  own : ∀ (i : Nat) (d : D), sd[i]? = some (.own d) → ∃ a, σ[i]? = some (some (.ref a)) ∧ a ∈ L ∧ OwnAt K cl w.H0 (L ++ w.O0) H a d
  io : ∀ (i : Nat) (d : D), sd[i]? = some (.io d) → σ[i]? = some (some (.ref w.a0)) ∧ w.a0 ∈ w.I ∧ OwnAt K cl w.H0 (L ++ w.O0) H w.a0 d
  inj : ∀ (i j : Nat) (d e : D) (a : Addr), sd[i]? = some (.own d) → sd[j]? = some (.own e) → σ[i]? = some (some (.ref a)) → σ[j]? = some (some (.ref a)) → i = j
  ioj : ∀ (i j : Nat) (d e : D), sd[i]? = some (.io d) → sd[j]? = some (.io e) → i = j
  len : σ.length = sd.length
  tr : TrOK K cl w L H σ sd
/-- the state's meaning -/
structure Wl (K : PySem.W.Frag) (cl : Cl) (w : Wf) (L : List Addr) (sd : S) (σ : L2.St) (H : Hp) : Prop where
  keep : ∀ b o, b ∉ w.I → w.H0 b = some o → H b = some o
  fresh : ∀ a ∈ L, w.H0 a = none
  alive : ∀ a ∈ L ++ w.O0, H a ≠ none
  disj : ∀ a ∈ L, a ∉ w.O0
  sub : ∀ a ∈ w.I, a ∈ w.O0
  st : StOK K cl w L H σ sd
/-- from (L, H) on to (L', H') -/
structure Step (w : Wf) (L : List Addr) (H : Hp) (L' : List Addr) (H' : Hp) : Prop where
  keep : ∀ b o, b ∉ L → b ∉ w.I → H b = some o → H' b = some o
  alv : ∀ b, H b ≠ none → H' b ≠ none
  new : ∀ a ∈ L', a ∈ L ∨ H a = none
theorem Step.refl {w : Wf} {L : List Addr} {H : Hp} : Step w L H L H := ⟨fun _ _ _ _ e => e, fun _ e => e, fun _ h => .inl h⟩
theorem Step.trans {w : Wf} {L L1 L2 : List Addr} {H H1 H2 : Hp} (s : Step w L H L1 H1) (t : Step w L1 H1 L2 H2) : Step w L H L2 H2 := by
  refine ⟨fun b o h1 h2 e => t.keep b o (fun z => ?_) h2 (s.keep b o h1 h2 e), fun b e => t.alv b (s.alv b e), fun a ha => ?_⟩
  · rcases s.new b z with y | y
    · exact h1 y
    · rw [e] at y; cases y
  · rcases t.new a ha with y | y
    · exact s.new a y
    · refine .inr ?_
      cases q : H a with
      | none => rfl
      | some o => exact absurd y (s.alv a (by rw [q]; simp))
theorem Step.of_same {w : Wf} {L : List Addr} {H H' : Hp} (s : Same H H') : Step w L H L H' :=
  ⟨fun b o _ _ e => s b o e, fun b e => by
    cases q : H b with
    | none => exact absurd q e
    | some o => rw [s b o q]; simp, fun _ h => .inl h⟩
/-- what is seen stays -/
theorem Step.seen {w : Wf} {L L' : List Addr} {H H' : Hp} (s : Step w L H L' H') (hI : ∀ a ∈ w.I, a ∈ w.O0) : Same (hide (L ++ w.O0) H) (hide (L' ++ w.O0) H') := fun b o e => by
  obtain ⟨n, e⟩ := hide_some.mp e
  have n1 : b ∉ L := fun z => n (List.mem_append_left _ z)
  have n2 : b ∉ w.O0 := fun z => n (List.mem_append_right _ z)
  refine hide_some.mpr ⟨fun z => ?_, s.keep b o n1 (fun z => n2 (hI b z)) e⟩
  rcases List.mem_append.mp z with z | z
  · rcases s.new b z with y | y
    · exact n1 y
    · rw [e] at y; cases y
  · exact n2 z
section
variable {K : PySem.W.Frag} {cl : Cl} {w : Wf} {L : List Addr} {sd : S} {σ : L2.St} {H H' : Hp}
/-- the state stands where all objects stay -/
theorem Wl.ext (W : Wl K cl w L sd σ H) (s : Same H H') : Wl K cl w L sd σ H' := by
  have sh : Same (hide (L ++ w.O0) H) (hide (L ++ w.O0) H') := fun b o e =>
    let ⟨n, e⟩ := hide_some.mp e
    hide_some.mpr ⟨n, s b o e⟩
  have own : ∀ {a d}, OwnAt K cl w.H0 (L ++ w.O0) H a d → OwnAt K cl w.H0 (L ++ w.O0) H' a d := fun {a d} h => by
    refine h.move ?_ sh
    cases q : H a with
    | none => exact absurd q h.some
    | some o => exact s a o q
  refine ⟨fun b o n e => s b o (W.keep b o n e), W.fresh, fun a ha => ?_, W.disj, W.sub, ⟨fun i d e => ?_, fun i d e => ?_, fun i d e => ?_, W.st.inj, W.st.ioj, W.st.len, W.st.tr.same sh rfl fun x hx _ _ => ⟨same_at s (W.alive x (hx.elim (List.mem_append_left _) fun z => List.mem_append_right _ (W.sub x z))), hx⟩⟩⟩
  · have := W.alive a ha
    cases q : H a with
    | none => exact absurd q this
    | some o => rw [s a o q]; simp
  · obtain ⟨v, h1, h2⟩ := W.st.val i d e
    exact ⟨v, h1, h2.mono sh⟩
  · obtain ⟨a, h1, h2, h3⟩ := W.st.own i d e
    exact ⟨a, h1, h2, own h3⟩
  · obtain ⟨h1, h2, h3⟩ := W.st.io i d e
    exact ⟨h1, h2, own h3⟩
/-- a new address -/
theorem Wl.new_ne (W : Wl K cl w L sd σ H) {p : Addr} (n : H p = none) : p ∉ L ++ w.O0 := fun z => W.alive p z n
theorem same_upd {H : Hp} {p : Addr} {o : HO} (n : H p = none) : Same H (upd H p o) := fun b u e => by
  rw [upd_ne (ne_of_none e n)]
  exact e
/-- a new list of the def's own -/
theorem Wl.made (W : Wl K cl w L sd σ H) {p : Addr} (s : Same H H') (n : H p = none) (e : H' p ≠ none) : Wl K cl w (p :: L) sd σ H' := by
  have W' := W.ext s
  have np := W.new_ne n
  have sh : Same (hide (L ++ w.O0) H) (hide (p :: L ++ w.O0) H') := fun b o z =>
    let ⟨n1, z⟩ := hide_some.mp z
    hide_some.mpr ⟨fun y => by
      rcases List.mem_cons.mp y with y | y
      · rw [y, n] at z; cases z
      · exact n1 y, s b o z⟩
  have own : ∀ {a d}, OwnAt K cl w.H0 (L ++ w.O0) H a d → OwnAt K cl w.H0 (p :: L ++ w.O0) H' a d := fun {a d} h => by
    refine h.move ?_ sh
    cases q : H a with
    | none => exact absurd q h.some
    | some o => exact s a o q
  refine ⟨W'.keep, fun a ha => ?_, fun a ha => ?_, fun a ha => ?_, W.sub, ⟨fun i d e => ?_, fun i d e => ?_, fun i d e => ?_, W.st.inj, W.st.ioj, W.st.len, W.st.tr.same sh rfl fun x hx _ _ => ⟨same_at s (W.alive x (hx.elim (List.mem_append_left _) fun z => List.mem_append_right _ (W.sub x z))), hx.imp (List.mem_cons_of_mem _) id⟩⟩⟩
  · (rcases List.mem_cons.mp ha with rfl | ha)
    · cases q : w.H0 a with
      | none => rfl
      | some o =>
        by_cases hI : a ∈ w.I
        · exact absurd (List.mem_append_right _ (W.sub a hI)) np
        · have := W.keep a o hI q
          rw [n] at this; cases this
    · exact W.fresh a ha
  · (rcases List.mem_cons.mp ha with rfl | ha)
    · exact e
    · exact W'.alive a ha
  · (rcases List.mem_cons.mp ha with rfl | ha)
    · exact fun z => np (List.mem_append_right _ z)
    · exact W.disj a ha
  · obtain ⟨v, h1, h2⟩ := W.st.val i d e
    exact ⟨v, h1, h2.mono sh⟩
  · obtain ⟨a, h1, h2, h3⟩ := W.st.own i d e
    exact ⟨a, h1, List.mem_cons_of_mem _ h2, own h3⟩
  · obtain ⟨h1, h2, h3⟩ := W.st.io i d e
    exact ⟨h1, h2, own h3⟩
/-- what is new now was new at the entry -/
theorem Wl.old (W : Wl K cl w L sd σ H) {b : Addr} (h : H b = none) : w.H0 b = none := by
  cases q : w.H0 b with
  | none => rfl
  | some o =>
    by_cases hI : b ∈ w.I
    · exact absurd h (W.alive b (List.mem_append_right _ (W.sub b hI)))
    · rw [W.keep b o hI q] at h
      cases h
/-- an own address is let go -/
theorem Wl.seen (W : Wl K cl w L sd σ H) : Same (hide (L ++ w.O0) H) (hide w.O0 H) := hide_sub fun _ h => List.mem_append_right _ h
end
/-! ### exceptions -/
/-- an exception's object: class, the address of its fields -/
def ExAt (K : PySem.W.Frag) (cl : Cl) (O : List Addr) (H : Hp) (e : Ex) (cls : Value) (d : Option Addr) : Prop := ∃ C names, cl e.c = some (C, names) ∧ cls = .ref C ∧ names.length = e.fs.length ∧
  ((names = [] ∧ d = none) ∨ ∃ dd fvs, names ≠ [] ∧ d = some dd ∧ hide O H dd = some (.xd fvs) ∧ ∀ (i : Nat) (f : Str) (x : D), names[i]? = some f → e.fs[i]? = some x → ∃ v, fvs.lookup f = some v ∧ Rp K cl (hide O H) v x)
theorem ExAt.mono {K : PySem.W.Frag} {cl : Cl} {O O' : List Addr} {H H' : Hp} {e : Ex} {cls : Value} {d : Option Addr} (h : ExAt K cl O H e cls d) (s : Same (hide O H) (hide O' H')) : ExAt K cl O' H' e cls d := by
  obtain ⟨C, names, h1, h2, h3, h4⟩ := h
  refine ⟨C, names, h1, h2, h3, ?_⟩
  rcases h4 with h4 | ⟨dd, fvs, q1, q2, q3, q4⟩
  · exact .inl h4
  · refine .inr ⟨dd, fvs, q1, q2, s _ _ q3, fun i f x e1 e2 => ?_⟩
    obtain ⟨v, r1, r2⟩ := q4 i f x e1 e2
    exact ⟨v, r1, r2.mono s⟩
/-- what is wished of an exception -/
def Wish (K : PySem.W.Frag) (cl : Cl) (wx : WX) (w : Wf) (e : Ex) (s : S) : Prop := ∀ L σ H cls d, Wl K cl w L s σ H → ExAt K cl (L ++ w.O0) H e cls d → wx cls d σ H
end Dt
namespace Dt
open L2 PySem PySem.Spec PyProof.Rows
/-! ### readings by functions of the data -/
section
variable (K : PySem.W.Frag) (cl : Cl) (wx : WX)
def PostE (w : Wf) (L : List Addr) (σ : L2.St) (H : Hp) (Q : VK) : M (D × S) → Prop
  | some (.ok (r, s')) => ∀ v H', Step w L H L H' → Wl K cl w L s' σ H' → Rp K cl (hide (L ++ w.O0) H') v r → Q v H'
  | some (.ex e s') => Wish K cl wx w e s'
  | none => False
def PostT (w : Wf) (L : List Addr) (σ : L2.St) (H : Hp) (Q : Bool → Hp → Prop) : M (Bool × S) → Prop
  | some (.ok (r, s')) => ∀ H', Step w L H L H' → Wl K cl w L s' σ H' → Q r H'
  | some (.ex e s') => Wish K cl wx w e s'
  | none => False
def PostA (w : Wf) (L : List Addr) (σ : L2.St) (H : Hp) (Q : List V → Hp → Prop) : M (List D × S) → Prop
  | some (.ok (r, s')) => ∀ v H', Step w L H L H' → Wl K cl w L s' σ H' → RpA K cl (hide (L ++ w.O0) H') v r → Q v H'
  | some (.ex e s') => Wish K cl wx w e s'
  | none => False
/-- a new list: its items -/
def PostF (w : Wf) (L : List Addr) (σ : L2.St) (H : Hp) (Q : VK) : M (D × S) → Prop
  | some (.ok (r, s')) => ∀ p H', Step w L H (p :: L) H' → p ∉ L ++ w.O0 → Wl K cl w L s' σ H' → Wl K cl w (p :: L) s' σ H' → OwnAt K cl H (p :: L ++ w.O0) H' p r → Q (.ref p) H'
  | some (.ex e s') => Wish K cl wx w e s'
  | none => False
def TEof (f : S → M (D × S)) : TE := fun σ H Q => ∃ w L sd, Wl K cl w L sd σ H ∧ PostE K cl wx w L σ H Q (f sd)
def TTof (f : S → M (Bool × S)) : TT := fun σ H Q => ∃ w L sd, Wl K cl w L sd σ H ∧ PostT K cl wx w L σ H Q (f sd)
def TAof (f : S → M (List D × S)) : TA := fun σ H Q => ∃ w L sd, Wl K cl w L sd σ H ∧ PostA K cl wx w L σ H Q (f sd)
def TFof (f : S → M (D × S)) : TE := fun σ H Q => ∃ w L sd, Wl K cl w L sd σ H ∧ PostF K cl wx w L σ H Q (f sd)
/-- a value's end: it may have made objects -/
def Fin1 (O : List Addr) (H : Hp) (Q : VK) : M D → Prop
  | some (.ok r) => ∀ v H', Same H H' → Rp K cl (hide O H') v r → Q v H'
  | some (.ex _ _) => True
  | none => False
end
section
variable {K : PySem.W.Frag} {cl : Cl} {wx : WX} {w : Wf} {L : List Addr} {σ : L2.St} {H H1 H2 : Hp} {Q : VK} {s s1 s2 : S}
/-- the end of a failure -/
structure Bot (K : PySem.W.Frag) (cl : Cl) (wx : WX) (w : Wf) {β : Type} (P : M β → Prop) : Prop where
  no : P none → False
  ex : ∀ e s, P (some (.ex e s)) → Wish K cl wx w e s
theorem botE : Bot K cl wx w (PostE K cl wx w L σ H Q) := ⟨fun h => h, fun _ _ h => h⟩
theorem botT {Q : Bool → Hp → Prop} : Bot K cl wx w (PostT K cl wx w L σ H Q) := ⟨fun h => h, fun _ _ h => h⟩
theorem botA {Q : List V → Hp → Prop} : Bot K cl wx w (PostA K cl wx w L σ H Q) := ⟨fun h => h, fun _ _ h => h⟩
theorem botF : Bot K cl wx w (PostF K cl wx w L σ H Q) := ⟨fun h => h, fun _ _ h => h⟩
theorem PostE.bd {m : M (D × S)} {β : Type} {P : M β → Prop} (hb : Bot K cl wx w P) {f : D × S → M β} (h : P (bd m f)) {C : VK}
    (k : ∀ r s1, P (f (r, s1)) → ∀ v H1, Step w L H L H1 → Wl K cl w L s1 σ H1 → Rp K cl (hide (L ++ w.O0) H1) v r → C v H1) : PostE K cl wx w L σ H C m := by
  match m, h with
  | none, h => exact (hb.no h).elim
  | some (.ex e s'), h => exact hb.ex e s' h
  | some (.ok (r, s1)), h => exact fun v H1 a b c => k r s1 h v H1 a b c
theorem PostT.bd {m : M (Bool × S)} {β : Type} {P : M β → Prop} (hb : Bot K cl wx w P) {f : Bool × S → M β} (h : P (bd m f)) {C : Bool → Hp → Prop}
    (k : ∀ r s1, P (f (r, s1)) → ∀ H1, Step w L H L H1 → Wl K cl w L s1 σ H1 → C r H1) : PostT K cl wx w L σ H C m := by
  match m, h with
  | none, h => exact (hb.no h).elim
  | some (.ex e s'), h => exact hb.ex e s' h
  | some (.ok (r, s1)), h => exact fun H1 a b => k r s1 h H1 a b
theorem PostA.bd {m : M (List D × S)} {β : Type} {P : M β → Prop} (hb : Bot K cl wx w P) {f : List D × S → M β} (h : P (bd m f)) {C : List V → Hp → Prop}
    (k : ∀ r s1, P (f (r, s1)) → ∀ v H1, Step w L H L H1 → Wl K cl w L s1 σ H1 → RpA K cl (hide (L ++ w.O0) H1) v r → C v H1) : PostA K cl wx w L σ H C m := by
  match m, h with
  | none, h => exact (hb.no h).elim
  | some (.ex e s'), h => exact hb.ex e s' h
  | some (.ok (r, s1)), h => exact fun v H1 a b c => k r s1 h v H1 a b c
theorem PostF.bd {m : M (D × S)} {β : Type} {P : M β → Prop} (hb : Bot K cl wx w P) {f : D × S → M β} (h : P (bd m f)) {C : VK}
    (k : ∀ r s1, P (f (r, s1)) → ∀ p H1, Step w L H (p :: L) H1 → p ∉ L ++ w.O0 → Wl K cl w L s1 σ H1 → Wl K cl w (p :: L) s1 σ H1 → OwnAt K cl H (p :: L ++ w.O0) H1 p r → C (.ref p) H1) : PostF K cl wx w L σ H C m := by
  match m, h with
  | none, h => exact (hb.no h).elim
  | some (.ex e s'), h => exact hb.ex e s' h
  | some (.ok (r, s1)), h => exact fun v H1 a b c d e => k r s1 h v H1 a b c d e
/-- a pure end -/
theorem PostE.fin {m : M D} (h : PostE K cl wx w L σ H Q (Dt.bd m fun r => ok (r, s2))) (st : Step w L H L H2) (W : Wl K cl w L s2 σ H2) : Fin1 K cl (L ++ w.O0) H2 Q m := by
  match m, h with
  | none, h => exact h.elim
  | some (.ex e s'), h => exact True.intro
  | some (.ok r), h => exact fun v H3 sm rp => h v H3 (st.trans (.of_same sm)) (W.ext sm) rp
theorem Step.sn (W : Wl K cl w L s σ H) (st : Step w L H1 L H2) : Same (hide (L ++ w.O0) H1) (hide (L ++ w.O0) H2) := st.seen W.sub
theorem iE {X : Cx} {e : Expr} {t t' : TE} (h : PE X e t) (k : ∀ σ H Q, t' σ H Q → t σ H Q) : PE X e t' := ⟨fun pins s σ H Q I q => h.run pins s σ H Q I (k σ H Q q)⟩
theorem iT {X : Cx} {e : Expr} {t t' : TT} (h : PT X e t) (k : ∀ σ H Q, t' σ H Q → t σ H Q) : PT X e t' := ⟨fun pins s σ H Q I q => h.run pins s σ H Q I (k σ H Q q)⟩
theorem iW {X : Cx} {e : Expr} {t t' : TT} (h : PW X e t) (k : ∀ σ H Q, t' σ H Q → t σ H Q) : PW X e t' := ⟨fun wh pins s σ H Q I q => h.run wh pins s σ H Q I (k σ H Q q)⟩
theorem iA {X : Cx} {e : List Expr} {t t' : TA} (h : PA X e t) (k : ∀ σ H Q, t' σ H Q → t σ H Q) : PA X e t' := ⟨fun pos pins s σ H Q I q => h.run pos pins s σ H Q I (k σ H Q q)⟩
theorem iK {X : Cx} {e : List Keyword} {t t' : TA} (h : PK X e t) (k : ∀ σ H Q, t' σ H Q → t σ H Q) : PK X e t' := ⟨fun pos pins s σ H Q I q => h.run pos pins s σ H Q I (k σ H Q q)⟩
theorem iS {X : Cx} {e : Stmt} {t t' : TS} (h : PS X e t) (k : ∀ D σ H, t' D σ H → t D σ H) : PS X e t' := ⟨fun pins s σ H D I q => h.run pins s σ H D I (k D σ H q)⟩
theorem iSs {X : Cx} {e : List Stmt} {t t' : TS} (h : PSs X e t) (k : ∀ D σ H, t' D σ H → t D σ H) : PSs X e t' := ⟨fun pins s σ H D I q => h.run pins s σ H D I (k D σ H q)⟩
end
/-! ### names, constants -/
def dVar (i : Nat) : S → M (D × S) := fun s => match s[i]? with
  | some (.val d) => ok (d, s)
  | _ => none
def dC (d : D) : S → M (D × S) := fun s => ok (d, s)
section
variable {X : Cx} {K : PySem.W.Frag} {cl : Cl} {wx : WX} {pos : Pos}
theorem d_var (i : Nat) {x : Str} (hN : X.N[i]? = some x := by rfl) (hv : Vis X.env.scope x := by first | exact Or.inl rfl | exact Or.inr (Or.inl rfl) | exact Or.inr (Or.inr rfl))
    (hd : (x == ("__debug__" : Str)) = false := by decide) (hcd : (x == ("__classdict__" : Str)) = false := by decide) : PE X (.Name x pos) (TEof K cl wx (dVar i)) := by
  refine iE (pe_var hN hv hd hcd) ?_
  rintro σ H Q ⟨w, L, sd, W, h⟩
  unfold dVar at h
  split at h
  · next d e =>
    obtain ⟨v, h1, h2⟩ := W.st.val i d e
    exact ⟨v, h1, h v H .refl W h2⟩
  · exact h.elim
theorem dC_of {e : Expr} {v : V} {d : D} (h : PE X e (tC v)) (r : ∀ H : Hp, Rp K cl H v d) : PE X e (TEof K cl wx (dC d)) := by
  refine iE h ?_
  rintro σ H Q ⟨w, L, sd, W, h⟩
  exact h v H .refl W (r _)
theorem d_int {i j} : PE X (.Constant (.int i) j pos) (TEof K cl wx (dC (.int i))) := dC_of pe_int fun _ => .int i
theorem d_bl {b j} : PE X (.Constant (.bool b) j pos) (TEof K cl wx (dC (.bl b))) := dC_of pe_bl fun _ => .bl b
theorem d_non {j} : PE X (.Constant .none j pos) (TEof K cl wx (dC .non)) := dC_of pe_non fun _ => .non
theorem d_str {x j} : PE X (.Constant (.str x) j pos) (TEof K cl wx (dC (.str x))) := dC_of pe_str fun _ => .str x
end
/-! ### operators -/
abbrev Op2 := D → D → M D
def dBin (g : Op2) (fa fb : S → M (D × S)) : S → M (D × S) := fun s => bd (fa s) fun p => bd (fb p.2) fun q => bd (g p.1 q.1) fun r => ok (r, q.2)
/-- g tells what r does -/
def OpD (K : PySem.W.Frag) (cl : Cl) (r : R2) (g : Op2) : Prop := ∀ (O : List Addr) (H : Hp) (x y : V) (d e : D) (Q : VK), (∀ a ∈ O, H a ≠ none) → Rp K cl (hide O H) x d → Rp K cl (hide O H) y e → Fin1 K cl O H Q (g d e) → r x y H Q
structure OpK (X : Cx) (K : PySem.W.Frag) (cl : Cl) (f : Value → Value → Sem Value) (g : Op2) : Prop where
  it : ∃ r, OpR X f r ∧ OpD K cl r g
section
variable {X : Cx} {K : PySem.W.Frag} {cl : Cl} {wx : WX} {pos : Pos} {a b : Expr} {fa fb : S → M (D × S)} {g : Op2}
theorem bin_read {r : R2} (hd : OpD K cl r g) : ∀ σ H Q, TEof K cl wx (dBin g fa fb) σ H Q → tOp r (TEof K cl wx fa) (TEof K cl wx fb) σ H Q := by
  rintro σ H Q ⟨w, L, sd, W, h⟩
  refine ⟨w, L, sd, W, PostE.bd botE h fun x s1 h v H1 st1 W1 rx => ?_⟩
  refine ⟨w, L, s1, W1, PostE.bd botE h fun y s2 h u H2 st2 W2 ry => ?_⟩
  exact hd (L ++ w.O0) H2 v u x y Q W2.alive (rx.mono (st2.sn W2)) ry (h.fin (st1.trans st2) W2)
theorem d_op {op : Operator} (ho : OpK X K cl (binaryOp op) g) (ha : PE X a (TEof K cl wx fa)) (hb : PE X b (TEof K cl wx fb)) : PE X (.BinOp a op b pos) (TEof K cl wx (dBin g fa fb)) := by
  obtain ⟨r, h1, h2⟩ := ho.it
  exact iE (pe_op h1 ha hb) (bin_read h2)
theorem d_cmp {op : CmpOp} (ho : OpK X K cl (compareOp op) g) (ha : PE X a (TEof K cl wx fa)) (hb : PE X b (TEof K cl wx fb)) (hm : behindInMarks op b = false := by first | exact nomark _ | rfl) : PE X (.Compare a [op] [b] pos) (TEof K cl wx (dBin g fa fb)) := by
  obtain ⟨r, h1, h2⟩ := ho.it
  exact iE (pe_cmpR h1 ha hb hm) (bin_read h2)
end
end Dt
namespace Dt
open L2 PySem PySem.Spec PyProof.Rows
/-! ### operators of ints -/
def mulOk (i j : Int) : Prop := (-(2 ^ 64) < i ∧ i < 2 ^ 64) ∨ (-(2 ^ 64) < j ∧ j < 2 ^ 64) ∨ i.natAbs.log2 + j.natAbs.log2 < 1000000
instance (i j : Int) : Decidable (mulOk i j) := by unfold mulOk; infer_instance
def divOk (j : Int) : Prop := 0 < j ∧ j.natAbs.log2 < 9000
instance (j : Int) : Decidable (divOk j) := by unfold divOk; infer_instance
def powOk (i j : Int) : Prop := 0 ≤ j ∧ j ≤ 1000000 ∧ i.natAbs < 2 ^ 64
instance (i j : Int) : Decidable (powOk i j) := by unfold powOk; infer_instance
def addI : Op2 := fun d e => match d, e with
  | .int i, .int j => ok (.int (i + j))
  | _, _ => none
def subI : Op2 := fun d e => match d, e with
  | .int i, .int j => ok (.int (i - j))
  | _, _ => none
def mulI : Op2 := fun d e => match d, e with
  | .int i, .int j => if mulOk i j then ok (.int (i * j)) else none
  | _, _ => none
def divI : Op2 := fun d e => match d, e with
  | .int i, .int j => if divOk j then ok (.int (i / j)) else none
  | _, _ => none
def modI : Op2 := fun d e => match d, e with
  | .int i, .int j => if 0 < j then ok (.int (i % j)) else none
  | _, _ => none
def powI : Op2 := fun d e => match d, e with
  | .int i, .int j => if powOk i j then ok (.int (i ^ j.toNat)) else none
  | _, _ => none
def ltI : Op2 := fun d e => match d, e with
  | .int i, .int j => ok (.bl (decide (i < j)))
  | _, _ => none
def leI : Op2 := fun d e => match d, e with
  | .int i, .int j => ok (.bl (decide (i ≤ j)))
  | _, _ => none
def gtI : Op2 := fun d e => match d, e with
  | .int i, .int j => ok (.bl (decide (j < i)))
  | _, _ => none
def geI : Op2 := fun d e => match d, e with
  | .int i, .int j => ok (.bl (decide (j ≤ i)))
  | _, _ => none
section
variable {X : Cx} {K : PySem.W.Frag} {cl : Cl} {wx : WX}
theorem Fin1.now {O : List Addr} {H : Hp} {Q : VK} {d : D} {v : V} (h : Fin1 K cl O H Q (ok d)) (r : Rp K cl (hide O H) v d) : Q v H := h v H (Same.refl H) r
/-- two ints, a condition -/
theorem opk_int {f : Value → Value → Sem Value} {C : Int → Int → Prop} {g : Int → Int → V} {g' : Int → Int → D} {op : Op2} (ho : OpR X f (rI C g)) (hr : ∀ i j (H : Hp), Rp K cl H (g i j) (g' i j))
    (h1 : ∀ d e, (∃ i j, d = .int i ∧ e = .int j ∧ ((C i j ∧ op d e = ok (g' i j)) ∨ op d e = none)) ∨ op d e = none) : OpK X K cl f op := by
  refine ⟨_, ho, fun O H x y d e Q _ rx ry h => ?_⟩
  rcases h1 d e with ⟨i, j, rfl, rfl, ⟨hc, e1⟩ | e1⟩ | e1
  · rw [e1] at h
    cases rx
    cases ry
    exact ⟨i, j, rfl, rfl, hc, h.now (hr i j _)⟩
  · rw [e1] at h
    exact h.elim
  · rw [e1] at h
    exact h.elim
theorem opk_int0 {f : Value → Value → Sem Value} {g : Int → Int → V} {g' : Int → Int → D} {op : Op2} (ho : OpR X f (rI0 g)) (hr : ∀ i j (H : Hp), Rp K cl H (g i j) (g' i j))
    (h1 : ∀ d e, (∃ i j, d = .int i ∧ e = .int j ∧ op d e = ok (g' i j)) ∨ op d e = none) : OpK X K cl f op := by
  refine ⟨_, ho, fun O H x y d e Q _ rx ry h => ?_⟩
  rcases h1 d e with ⟨i, j, rfl, rfl, e1⟩ | e1
  · rw [e1] at h
    cases rx
    cases ry
    exact ⟨i, j, rfl, rfl, h.now (hr i j _)⟩
  · rw [e1] at h
    exact h.elim
theorem two_ints {op : Op2} {g' : Int → Int → D} (h : ∀ i j, op (.int i) (.int j) = ok (g' i j)) (h2 : ∀ d e, (∀ i j, ¬ (d = .int i ∧ e = .int j)) → op d e = none) : ∀ d e, (∃ i j, d = .int i ∧ e = .int j ∧ op d e = ok (g' i j)) ∨ op d e = none := fun d e => by
  by_cases q : ∃ i j, d = .int i ∧ e = .int j
  · obtain ⟨i, j, rfl, rfl⟩ := q
    exact .inl ⟨i, j, rfl, rfl, h i j⟩
  · exact .inr (h2 d e fun i j z => q ⟨i, j, z⟩)
theorem two_intsC {op : Op2} {C : Int → Int → Prop} {g' : Int → Int → D} (h : ∀ i j, (C i j ∧ op (.int i) (.int j) = ok (g' i j)) ∨ op (.int i) (.int j) = none) (h2 : ∀ d e, (∀ i j, ¬ (d = .int i ∧ e = .int j)) → op d e = none) :
    ∀ d e, (∃ i j, d = .int i ∧ e = .int j ∧ ((C i j ∧ op d e = ok (g' i j)) ∨ op d e = none)) ∨ op d e = none := fun d e => by
  by_cases q : ∃ i j, d = .int i ∧ e = .int j
  · obtain ⟨i, j, rfl, rfl⟩ := q
    exact .inl ⟨i, j, rfl, rfl, h i j⟩
  · exact .inr (h2 d e fun i j z => q ⟨i, j, z⟩)
theorem k_add : OpK X K cl (binaryOp .Add) addI := opk_int0 op_add (fun _ _ _ => .int _) (two_ints (fun _ _ => rfl) fun d e h => by
  cases d <;> cases e <;> first | rfl | exact absurd ⟨rfl, rfl⟩ (h _ _))
theorem k_sub : OpK X K cl (binaryOp .Sub) subI := opk_int0 op_sub (fun _ _ _ => .int _) (two_ints (fun _ _ => rfl) fun d e h => by
  cases d <;> cases e <;> first | rfl | exact absurd ⟨rfl, rfl⟩ (h _ _))
theorem k_le : OpK X K cl (compareOp .LtE) leI := opk_int0 op_le (fun _ _ _ => .bl _) (two_ints (fun _ _ => rfl) fun d e h => by
  cases d <;> cases e <;> first | rfl | exact absurd ⟨rfl, rfl⟩ (h _ _))
theorem k_gt : OpK X K cl (compareOp .Gt) gtI := opk_int0 op_gt (fun _ _ _ => .bl _) (two_ints (fun _ _ => rfl) fun d e h => by
  cases d <;> cases e <;> first | rfl | exact absurd ⟨rfl, rfl⟩ (h _ _))
theorem k_ge : OpK X K cl (compareOp .GtE) geI := opk_int0 op_ge (fun _ _ _ => .bl _) (two_ints (fun _ _ => rfl) fun d e h => by
  cases d <;> cases e <;> first | rfl | exact absurd ⟨rfl, rfl⟩ (h _ _))
theorem mulOk.ok {i j : Int} (h : mulOk i j) : IntMulOk i j := by
  rcases h with h | h | h
  · exact CMul.ok (.inl h)
  · exact CMul.ok (.inr h)
  · exact CMulW.ok h
theorem o_mul : OpR X (binaryOp .Mult) (rI mulOk fun i j => .int (i * j)) := opI fun _ _ _ _ _ _ _ hc q => mul_int q hc.ok
theorem o_pow : OpR X (binaryOp .Pow) (rI powOk fun i j => .int (i ^ j.toNat)) := op_pow
theorem o_div : OpR X (binaryOp .FloorDiv) (rI (fun _ j => divOk j) fun i j => .int (i / j)) := op_fdivW
theorem k_mul : OpK X K cl (binaryOp .Mult) mulI := opk_int o_mul (fun _ _ _ => .int _) (two_intsC (fun i j => by
    by_cases h : mulOk i j
    · exact .inl ⟨h, by unfold mulI; simp [h]⟩
    · exact .inr (by unfold mulI; simp [h])) fun d e h => by
  cases d <;> cases e <;> first | rfl | exact absurd ⟨rfl, rfl⟩ (h _ _))
theorem k_div : OpK X K cl (binaryOp .FloorDiv) divI := opk_int o_div (fun _ _ _ => .int _) (two_intsC (fun i j => by
    by_cases h : divOk j
    · exact .inl ⟨h, by unfold divI; simp [h]⟩
    · exact .inr (by unfold divI; simp [h])) fun d e h => by
  cases d <;> cases e <;> first | rfl | exact absurd ⟨rfl, rfl⟩ (h _ _))
theorem k_mod : OpK X K cl (binaryOp .Mod) modI := opk_int op_mod (fun _ _ _ => .int _) (two_intsC (fun i j => by
    by_cases h : 0 < j
    · exact .inl ⟨h, by unfold modI; simp [h]⟩
    · exact .inr (by unfold modI; simp [h])) fun d e h => by
  cases d <;> cases e <;> first | rfl | exact absurd ⟨rfl, rfl⟩ (h _ _))
theorem k_pow : OpK X K cl (binaryOp .Pow) powI := opk_int o_pow (fun _ _ _ => .int _) (two_intsC (fun i j => by
    by_cases h : powOk i j
    · exact .inl ⟨h, by unfold powI; simp [h]⟩
    · exact .inr (by unfold powI; simp [h])) fun d e h => by
  cases d <;> cases e <;> first | rfl | exact absurd ⟨rfl, rfl⟩ (h _ _))
end
/-! ### equality: flat values, None, data -/
mutual
/-- plain data as the model's -/
def D.py : D → PyData
  | .non => .none
  | .bl b => .bool b
  | .int i => .int i
  | .str x => .str x
  | .lst xs => .list (D.pys xs)
  | .tup xs => .tuple (D.pys xs)
  | .obj _ _ => .none
  | .dic _ _ => .none
  | .reg _ => .none
  | .err _ _ => .none
  | .cls _ => .none
  | .tab _ => .none
  | .fn _ _ _ _ _ => .none
  | .tz _ => .none
  | .box _ => .none
def D.pys : List D → List PyData
  | [] => []
  | x :: xs => D.py x :: D.pys xs
end
mutual
/-- no objects, no dicts within -/
def D.plain : D → Bool
  | .non => true
  | .bl _ => true
  | .int _ => true
  | .str _ => true
  | .lst xs => D.plains xs
  | .tup xs => D.plains xs
  | .obj _ _ => false
  | .dic _ _ => false
  | .reg _ => false
  | .err _ _ => false
  | .cls _ => false
  | .tab _ => false
  | .fn _ _ _ _ _ => false
  | .tz _ => false
  | .box _ => false
def D.plains : List D → Bool
  | [] => true
  | x :: xs => D.plain x && D.plains xs
end
mutual
theorem rp_dp {K : PySem.W.Frag} {cl : Cl} {H : Hp} : ∀ (d : D) (v : V), Rp K cl H v d → d.plain = true → Dp K H v d.py
  | .non, _, h, _ => by cases h; rw [D.py]; exact .non
  | .bl b, _, h, _ => by cases h; rw [D.py]; exact .bl b
  | .int i, _, h, _ => by cases h; rw [D.py]; exact .int i
  | .str x, _, h, _ => by cases h; rw [D.py]; exact .str x
  | .lst ds, _, h, p => by
    cases h with
    | lst h r =>
      rw [D.plain] at p
      rw [D.py]
      exact .lst h (rps_dp ds _ r p)
  | .tup ds, _, h, p => by
    cases h with
    | tup h r =>
      rw [D.plain] at p
      rw [D.py]
      exact .tup h (rps_dp ds _ r p)
  | .obj _ _, _, _, p => by rw [D.plain] at p; cases p
  | .dic _ _, _, _, p => by rw [D.plain] at p; cases p
  | .reg _, _, _, p => by rw [D.plain] at p; cases p
  | .err _ _, _, _, p => by rw [D.plain] at p; cases p
  | .cls _, _, _, p => by rw [D.plain] at p; cases p
  | .tab _, _, _, p => by rw [D.plain] at p; cases p
  | .fn _ _ _ _ _, _, _, p => by rw [D.plain] at p; cases p
  | .tz _, _, _, p => by rw [D.plain] at p; cases p
theorem rps_dp {K : PySem.W.Frag} {cl : Cl} {H : Hp} : ∀ (ds : List D) (vs : List V), RpA K cl H vs ds → D.plains ds = true → DpAll K H vs (D.pys ds)
  | [], _, h, _ => by cases h; rw [D.pys]; exact .nil
  | d :: ds, _, h, p => by
    cases h with
    | cons a r =>
      rw [D.plains] at p
      have p' := Bool.and_eq_true_iff.mp p
      rw [D.pys]
      exact .cons (rp_dp d _ a p'.1) (rps_dp ds _ r p'.2)
end
mutual
theorem dp_mono {K : PySem.W.Frag} {H H' : Hp} (s : Same H H') : ∀ {v : V} {d : PyData}, Dp K H v d → Dp K H' v d
  | _, _, .non => .non
  | _, _, .bl b => .bl b
  | _, _, .int i => .int i
  | _, _, .str x => .str x
  | _, _, .lst h r => .lst (s.seq h) (dps_mono s r)
  | _, _, .tup h r => .tup (same_sqT s h) (dps_mono s r)
theorem dps_mono {K : PySem.W.Frag} {H H' : Hp} (s : Same H H') : ∀ {vs : List V} {ds : List PyData}, DpAll K H vs ds → DpAll K H' vs ds
  | _, _, .nil => .nil
  | _, _, .cons a r => .cons (dp_mono s a) (dps_mono s r)
end
theorem Rp.dp {K : PySem.W.Frag} {cl : Cl} {O : List Addr} {H : Hp} {v : V} {d : D} (h : Rp K cl (hide O H) v d) (p : d.plain = true) : Dp K H v d.py := dp_mono hide_le (rp_dp d v h p)
/-- == of plain data -/
def eqD : Op2 := fun d e => if d.plain && e.plain && SeqAt.shaped d.py && SeqAt.shaped e.py then ok (.bl (PyData.eqv d.py e.py)) else none
def neD : Op2 := fun d e => if d.plain && e.plain && SeqAt.shaped d.py && SeqAt.shaped e.py then ok (.bl (!PyData.eqv d.py e.py)) else none
def isNon : Op2 := fun d e => match d, e with
  | .non, .non => ok (.bl true)
  | _, .non => ok (.bl false)
  | _, _ => none
def ninD : Op2 := fun d e => match e with
  | .lst xs => if d.plain && D.plains xs && SeqAt.shaped d.py && SeqAt.shaped (.list (D.pys xs)) then ok (.bl (!(D.pys xs).any fun z => PyData.eqv z d.py)) else none
  | _ => none
section
variable {X : Cx} {cl : Cl} {wx : WX}
theorem k_eqD (hu : X.A.units + 64 < cLine) : OpK X X.K cl (compareOp .Eq) eqD := by
  refine ⟨_, op_eqD hu, fun O H x y d e Q _ rx ry h => ?_⟩
  unfold eqD at h
  split at h
  · next c =>
    simp only [Bool.and_eq_true] at c
    obtain ⟨⟨⟨c1, c2⟩, c3⟩, c4⟩ := c
    exact ⟨d.py, e.py, rx.dp c1, ry.dp c2, c3, c4, h.now (.bl _)⟩
  · exact h.elim
theorem k_neD (hu : X.A.units + 64 < cLine) : OpK X X.K cl (compareOp .NotEq) neD := by
  refine ⟨_, op_neD hu, fun O H x y d e Q _ rx ry h => ?_⟩
  unfold neD at h
  split at h
  · next c =>
    simp only [Bool.and_eq_true] at c
    obtain ⟨⟨⟨c1, c2⟩, c3⟩, c4⟩ := c
    exact ⟨d.py, e.py, rx.dp c1, ry.dp c2, c3, c4, h.now (.bl _)⟩
  · exact h.elim
theorem k_ninD (hu : X.A.units + 65 < cLine) : OpK X X.K cl (compareOp .NotIn) ninD := by
  refine ⟨_, op_notInD hu, fun O H x y d e Q _ rx ry h => ?_⟩
  unfold ninD at h
  split at h
  · next xs =>
    split at h
    · next c =>
      simp only [Bool.and_eq_true] at c
      obtain ⟨⟨⟨c1, c2⟩, c3⟩, c4⟩ := c
      exact ⟨d.py, D.pys xs, rx.dp c1, by have q := ry.dp (by rw [D.plain]; exact c2); rw [D.py] at q; exact q, c3, c4, h.now (.bl _)⟩
    · exact h.elim
  · exact h.elim
theorem k_is {K : PySem.W.Frag} : OpK X K cl (compareOp .Is) isNon := by
  refine ⟨_, op_isN, fun O H x y d e Q _ rx ry h => ?_⟩
  cases e with
  | non =>
    cases ry
    refine ⟨rfl, ?_⟩
    cases rx <;> exact h.now (.bl _)
  | _ => cases d <;> exact h.elim
end
end Dt
namespace Dt
open L2 PySem PySem.Spec PyProof.Rows
/-! ### tests -/
/-- a bool value as a test -/
def dTst (f : S → M (D × S)) : S → M (Bool × S) := fun s => bd (f s) fun p => match p.1 with
  | .bl b => ok (b, p.2)
  | _ => none
def dAnd (fa fb : S → M (Bool × S)) : S → M (Bool × S) := fun s => bd (fa s) fun p => if p.1 = true then fb p.2 else ok (false, p.2)
def dOr (fa fb : S → M (Bool × S)) : S → M (Bool × S) := fun s => bd (fa s) fun p => if p.1 = true then ok (true, p.2) else fb p.2
def dNot (fa : S → M (Bool × S)) : S → M (Bool × S) := fun s => bd (fa s) fun p => ok (!p.1, p.2)
/-- and, or, not as values (bools) -/
def vAnd (fa fb : S → M (D × S)) : S → M (D × S) := fun s => bd (fa s) fun p => match p.1 with
  | .bl b => if b = true then fb p.2 else ok (.bl false, p.2)
  | _ => none
def vOr (fa fb : S → M (D × S)) : S → M (D × S) := fun s => bd (fa s) fun p => match p.1 with
  | .bl b => if b = true then ok (.bl true, p.2) else fb p.2
  | _ => none
def vNot (fa : S → M (D × S)) : S → M (D × S) := fun s => bd (fa s) fun p => match p.1 with
  | .bl b => ok (.bl (!b), p.2)
  | _ => none
def dIf (ft : S → M (Bool × S)) (fa fb : S → M (D × S)) : S → M (D × S) := fun s => bd (ft s) fun p => if p.1 = true then fa p.2 else fb p.2
section
variable {X : Cx} {K : PySem.W.Frag} {cl : Cl} {wx : WX} {pos : Pos} {a b c e : Expr} {rest : List Expr} {fa fb : S → M (D × S)} {ta tb tc : S → M (Bool × S)}
theorem tst_read : ∀ σ H Q, TTof K cl wx (dTst fa) σ H Q → tB (TEof K cl wx fa) σ H Q := by
  rintro σ H Q ⟨w, L, sd, W, h⟩
  refine ⟨w, L, sd, W, PostE.bd botT h fun r s1 h v H1 st1 W1 rr => ?_⟩
  cases r with
  | bl b =>
    cases rr
    exact ⟨b, rfl, h H1 st1 W1⟩
  | _ => exact h.elim
/-- a test by its value -/
theorem d_tst (h : PE X e (TEof K cl wx fa)) (he : ∀ whole, isTrue e X.env whole = (do let v ← whole; standAt e.pos; holding [v] (truthy v)) := by intro _; rfl) : PT X e (TTof K cl wx (dTst fa)) := iT (pt_val h he) tst_read
theorem d_tcmp {op : CmpOp} {g : Op2} (ho : OpK X K cl (compareOp op) g) (ha : PE X a (TEof K cl wx fa)) (hb : PE X b (TEof K cl wx fb)) (hm : behindInMarks op b = false := by first | exact nomark _ | rfl) : PT X (.Compare a [op] [b] pos) (TTof K cl wx (dTst (dBin g fa fb))) := by
  obtain ⟨r, h1, h2⟩ := ho.it
  refine iT (pt_cmpR h1 ha hb hm) fun σ H Q h => ?_
  obtain ⟨w, L, sd, W, h⟩ := h
  refine bin_read h2 σ H _ ⟨w, L, sd, W, PostE.bd botT h fun r s1 h v H1 st1 W1 rr => ?_⟩
  cases r with
  | bl b =>
    cases rr
    exact ⟨b, rfl, h H1 st1 W1⟩
  | _ => exact h.elim
theorem or_read : ∀ σ H Q, TTof K cl wx (dOr ta tb) σ H Q → tOr (TTof K cl wx ta) (TTof K cl wx tb) σ H Q := by
  rintro σ H Q ⟨w, L, sd, W, h⟩
  refine ⟨w, L, sd, W, PostT.bd botT h fun r s1 h H1 st1 W1 => ?_⟩
  cases r with
  | false =>
    refine iteF ⟨w, L, s1, W1, ?_⟩
    match (tb s1 : M (Bool × S)), h with
    | none, h => exact h.elim
    | some (.ex _ _), h => exact h
    | some (.ok (b, s2)), h => exact fun H2 st2 W2 => h H2 (st1.trans st2) W2
  | true => exact iteT (h H1 st1 W1)
theorem d_or1 (ha : PT X a (TTof K cl wx ta)) : PW X (.BoolOp .Or [a] pos) (TTof K cl wx ta) := pw_or1 ha
theorem d_or (ha : PT X a (TTof K cl wx ta)) (hb : PW X (.BoolOp .Or (b :: rest) pos) (TTof K cl wx tb)) : PW X (.BoolOp .Or (a :: b :: rest) pos) (TTof K cl wx (dOr ta tb)) := iW (pw_or ha hb) or_read
theorem d_not (ha : PT X a (TTof K cl wx ta)) : PT X (.UnaryOp .Not a pos) (TTof K cl wx (dNot ta)) := by
  refine iT (pt_not ha) ?_
  rintro σ H Q ⟨w, L, sd, W, h⟩
  exact ⟨w, L, sd, W, PostT.bd botT h fun r s1 h H1 st1 W1 => h H1 st1 W1⟩
theorem PostE.on {w : Wf} {L : List Addr} {σ : L2.St} {H H1 : Hp} {Q : VK} {m : M (D × S)} (h : PostE K cl wx w L σ H Q m) (st1 : Step w L H L H1) : PostE K cl wx w L σ H1 Q m := by
  match m, h with
  | none, h => exact h.elim
  | some (.ex _ _), h => exact h
  | some (.ok (b, s2)), h => exact fun v H2 st2 W2 r => h v H2 (st1.trans st2) W2 r
theorem d_vone {op : BoolOp} (ha : PE X a (TEof K cl wx fa)) : PE X (.BoolOp op [a] pos) (TEof K cl wx fa) := pe_one ha
theorem d_vand (ha : PE X a (TEof K cl wx fa)) (hb : PE X (.BoolOp .And (b :: rest) pos) (TEof K cl wx fb)) : PE X (.BoolOp .And (a :: b :: rest) pos) (TEof K cl wx (vAnd fa fb)) := by
  refine iE (pe_and ha hb) ?_
  rintro σ H Q ⟨w, L, sd, W, h⟩
  refine ⟨w, L, sd, W, PostE.bd botE h fun r s1 h v H1 st1 W1 rr => ?_⟩
  cases r with
  | bl b =>
    cases rr
    refine ⟨b, rfl, ?_⟩
    cases b with
    | true => exact iteT ⟨w, L, s1, W1, PostE.on h st1⟩
    | false => exact iteF (h _ H1 st1 W1 (.bl _))
  | _ => exact h.elim
theorem d_vor (ha : PE X a (TEof K cl wx fa)) (hb : PE X (.BoolOp .Or (b :: rest) pos) (TEof K cl wx fb)) : PE X (.BoolOp .Or (a :: b :: rest) pos) (TEof K cl wx (vOr fa fb)) := by
  refine iE (pe_or ha hb) ?_
  rintro σ H Q ⟨w, L, sd, W, h⟩
  refine ⟨w, L, sd, W, PostE.bd botE h fun r s1 h v H1 st1 W1 rr => ?_⟩
  cases r with
  | bl b =>
    cases rr
    refine ⟨b, rfl, ?_⟩
    cases b with
    | false => exact iteF ⟨w, L, s1, W1, PostE.on h st1⟩
    | true => exact iteT (h _ H1 st1 W1 (.bl _))
  | _ => exact h.elim
theorem d_ifx (hc : PT X c (TTof K cl wx tc)) (ha : PE X a (TEof K cl wx fa)) (hb : PE X b (TEof K cl wx fb)) : PE X (.IfExp c a b pos) (TEof K cl wx (dIf tc fa fb)) := by
  refine iE (pe_ifExp hc ha hb) ?_
  rintro σ H Q ⟨w, L, sd, W, h⟩
  refine ⟨w, L, sd, W, PostT.bd botE h fun r s1 h H1 st1 W1 => ?_⟩
  cases r with
  | true => exact iteT ⟨w, L, s1, W1, PostE.on h st1⟩
  | false => exact iteF ⟨w, L, s1, W1, PostE.on h st1⟩
end
/-! ### arguments, displays -/
def aNil : S → M (List D × S) := fun s => ok ([], s)
def aCons (fa : S → M (D × S)) (fr : S → M (List D × S)) : S → M (List D × S) := fun s => bd (fa s) fun p => bd (fr p.2) fun q => ok (p.1 :: q.1, q.2)
def dTup (fr : S → M (List D × S)) : S → M (D × S) := fun s => bd (fr s) fun p => if p.1.length ≤ sizeLine then ok (.tup p.1, p.2) else none
def dLst (fr : S → M (List D × S)) : S → M (D × S) := fun s => bd (fr s) fun p => if p.1.length ≤ sizeLine then ok (.lst p.1, p.2) else none
section
variable {X : Cx} {K : PySem.W.Frag} {cl : Cl} {wx : WX} {pos : Pos} {e : Expr} {es : List Expr} {fa : S → M (D × S)} {fr : S → M (List D × S)}
theorem nil_read : ∀ σ H Q, TAof K cl wx aNil σ H Q → tNil σ H Q := by
  rintro σ H Q ⟨w, L, sd, W, h⟩
  exact h [] H .refl W .nil
theorem cons_read : ∀ σ H Q, TAof K cl wx (aCons fa fr) σ H Q → tCons (TEof K cl wx fa) (TAof K cl wx fr) σ H Q := by
  rintro σ H Q ⟨w, L, sd, W, h⟩
  refine ⟨w, L, sd, W, PostE.bd botA h fun r s1 h v H1 st1 W1 rr => ?_⟩
  refine ⟨w, L, s1, W1, PostA.bd botA h fun rs s2 h vs H2 st2 W2 rrs => ?_⟩
  exact h (v :: vs) H2 (st1.trans st2) W2 (.cons (rr.mono (st2.sn W2)) rrs)
theorem d_nil : PA X [] (TAof K cl wx aNil) := iA pa_nil nil_read
theorem d_cons (ha : PE X e (TEof K cl wx fa)) (hr : PA X es (TAof K cl wx fr)) (hs : starEach (e :: es) X.env = (false, eval e X.env) :: starEach es X.env := by rfl) : PA X (e :: es) (TAof K cl wx (aCons fa fr)) := iA (pa_cons ha hr hs) cons_read
theorem d_tup {k : Nat} (ha : PA X es (TAof K cl wx fr)) : PE X (.Tuple es k pos) (TEof K cl wx (dTup fr)) := by
  refine iE (pe_tup ha) ?_
  rintro σ H Q ⟨w, L, sd, W, h⟩
  refine ⟨w, L, sd, W, PostA.bd botE h fun rs s1 h vs H1 st1 W1 rrs => ?_⟩
  split at h
  · next c =>
    refine ⟨by rw [rrs.len]; exact c, fun p np => ?_⟩
    have sm := same_upd (o := .tup vs) np
    exact h (.ref p) _ (st1.trans (.of_same sm)) (W1.ext sm) (.tup (.inl (.inl (hide_some.mpr ⟨W1.new_ne np, upd_same⟩))) (rrs.mono ((Step.of_same sm).sn W1)))
  · exact h.elim
/-- a new list as one's own -/
theorem f_lst (ha : PA X es (TAof K cl wx fr)) : PE X (.List es pos) (TFof K cl wx (dLst fr)) := by
  refine iE (pe_lst ha) ?_
  rintro σ H Q ⟨w, L, sd, W, h⟩
  refine ⟨w, L, sd, W, PostA.bd botF h fun rs s1 h vs H1 st1 W1 rrs => ?_⟩
  split at h
  · next c =>
    refine ⟨by rw [rrs.len]; exact c, fun p np => ?_⟩
    have sm := same_upd (o := .lst vs) np
    have st2 : Step w L H1 (p :: L) (upd H1 p (.lst vs)) := ⟨(Step.of_same (w := w) (L := L) sm).keep, (Step.of_same (w := w) (L := L) sm).alv, fun a ha => by
      (rcases List.mem_cons.mp ha with rfl | ha)
      · exact .inr np
      · exact .inl ha⟩
    have W2 := W1.made sm np (by rw [upd_same]; simp)
    exact h p _ (st1.trans st2) (W1.new_ne np) (W1.ext sm) W2 ⟨vs, upd_same, rrs.mono (st2.seen W1.sub)⟩
  · exact h.elim
/-- a new list as a value -/
theorem d_of (h : PE X e (TFof K cl wx fa)) : PE X e (TEof K cl wx fa) := by
  refine iE h ?_
  rintro σ H Q ⟨w, L, sd, W, h⟩
  refine ⟨w, L, sd, W, ?_⟩
  match (fa sd : M (D × S)), h with
  | none, h => exact h.elim
  | some (.ex _ _), h => exact h
  | some (.ok (r, s1)), h =>
    intro p H1 st np W1 W2 ho
    refine h (.ref p) H1 ⟨st.keep, st.alv, fun _ z => .inl z⟩ W1 (ho.rp np ?_)
    exact hide_sub fun _ z => List.mem_cons_of_mem _ z
end
end Dt
namespace Dt
open L2 PySem PySem.Spec PyProof.Rows
/-! ### calls of what is built in -/
abbrev OpN := List D → M D
def dCall (g : OpN) (fr : S → M (List D × S)) : S → M (D × S) := fun s => bd (fr s) fun p => bd (g p.1) fun r => ok (r, p.2)
def CallD (K : PySem.W.Frag) (cl : Cl) (r : List V → Hp → VK → Prop) (g : OpN) : Prop := ∀ (O : List Addr) (H : Hp) (xs : List V) (ds : List D) (Q : VK), (∀ a ∈ O, H a ≠ none) → RpA K cl (hide O H) xs ds → Fin1 K cl O H Q (g ds) → r xs H Q
structure CallK (X : Cx) (K : PySem.W.Frag) (cl : Cl) (f : Value) (g : OpN) : Prop where
  it : ∃ r, CallR X f r ∧ CallD K cl r g
section
variable {X : Cx} {K : PySem.W.Frag} {cl : Cl} {wx : WX} {pos p : Pos} {e : Expr} {es : List Expr} {fr : S → M (List D × S)} {g : OpN} {x : Str} {id T : String}
theorem call_read {r : List V → Hp → VK → Prop} (hd : CallD K cl r g) : ∀ σ H Q, TEof K cl wx (dCall g fr) σ H Q → tCB r (TAof K cl wx fr) σ H Q := by
  rintro σ H Q ⟨w, L, sd, W, h⟩
  refine ⟨w, L, sd, W, PostA.bd botE h fun rs s1 h vs H1 st1 W1 rrs => ?_⟩
  exact hd (L ++ w.O0) H1 vs rs Q W1.alive rrs (h.fin st1 W1)
theorem d_callB (hc : CallK X K cl (.builtin id) g) (hm : X.mg x = none) (hv : bootBuiltins x = some (.builtin id)) (ha : PA X (e :: es) (TAof K cl wx fr)) (hg : Gl X x := by rfl) (hn : x ≠ "__name__" := by decide) (hdb : (x == ("__debug__" : Str)) = false := by decide)
    (he : starEach (e :: es) X.env = (false, eval e X.env) :: starEach es X.env := by rfl) (hpl : (backTo pos (starEach es X.env)).any (·.1) = false := by rfl) : PE X (.Call (.Name x p) (e :: es) [] pos) (TEof K cl wx (dCall g fr)) := by
  obtain ⟨r, h1, h2⟩ := hc.it
  exact iE (pe_callB h1 hg hm hv ha hn hdb he hpl) (call_read h2)
theorem d_callT (hc : CallK X K cl (.type T) g) (hm : X.mg x = none) (hv : bootBuiltins x = some (.type T)) (ha : PA X (e :: es) (TAof K cl wx fr)) (hg : Gl X x := by rfl) (hn : x ≠ "__name__" := by decide) (hdb : (x == ("__debug__" : Str)) = false := by decide)
    (he : starEach (e :: es) X.env = (false, eval e X.env) :: starEach es X.env := by rfl) (hpl : (backTo pos (starEach es X.env)).any (·.1) = false := by rfl) : PE X (.Call (.Name x p) (e :: es) [] pos) (TEof K cl wx (dCall g fr)) := by
  obtain ⟨r, h1, h2⟩ := hc.it
  exact iE (pe_callTy h1 hg hm hv ha hn hdb he hpl) (call_read h2)
end
def max2N : OpN := fun ds => match ds with
  | [.int i, .int j] => ok (.int (if j > i then j else i))
  | _ => none
def strN : OpN := fun ds => match ds with
  | [.int i] => if i.natAbs.log2 < 1920 then ok (.str (toString i)) else none
  | _ => none
def divmodN : OpN := fun ds => match ds with
  | [.int i, .int j] => if divOk j then ok (.tup [.int (i / j), .int (i % j)]) else none
  | _ => none
/-- a list of ints -/
def ints? : List D → Option (List Int)
  | [] => some []
  | .int i :: r => (ints? r).map (i :: ·)
  | _ => none
theorem of_ints? : ∀ {ds : List D} {ns : List Int}, ints? ds = some ns → ds = ns.map D.int
  | [], _, h => by cases h; rfl
  | d :: ds, ns, h => by
    cases d with
    | int i =>
      rw [ints?] at h
      cases e : ints? ds with
      | none => (rw [e] at h; cases h)
      | some ms =>
        rw [e] at h
        cases h
        rw [of_ints? e]
        rfl
    | _ => cases h
def tupleN : OpN := fun ds => match ds with
  | [.lst xs] => ok (.tup xs)
  | [.tup xs] => ok (.tup xs)
  | _ => none
section
variable {X : Cx} {K : PySem.W.Frag} {cl : Cl} {wx : WX}
theorem Fin1.new {O : List Addr} {H : Hp} {Q : VK} {d : D} {p : Addr} {u : HO} (h : Fin1 K cl O H Q (ok d)) (np : H p = none) (r : Rp K cl (hide O (upd H p u)) (.ref p) d) : Q (.ref p) (upd H p u) := h _ _ (same_upd np) r
theorem hide_new {O : List Addr} {H : Hp} {p : Addr} {u : HO} (al : ∀ a ∈ O, H a ≠ none) (np : H p = none) : hide O (upd H p u) p = some u := hide_some.mpr ⟨fun z => al p z np, upd_same⟩
theorem hide_upd {O : List Addr} {H : Hp} {p : Addr} {u : HO} (np : H p = none) : Same (hide O H) (hide O (upd H p u)) := fun b o e =>
  let ⟨n, e⟩ := hide_some.mp e
  hide_some.mpr ⟨n, same_upd np b o e⟩
theorem c_max2 (hc : X.calm = true := by rfl) : CallK X K cl (.builtin "max") max2N := by
  refine ⟨_, call_max2 hc, fun O H xs ds Q al r h => ?_⟩
  unfold max2N at h
  split at h
  · obtain ⟨v, u, rfl, rv, ru⟩ := r.two
    cases rv
    cases ru
    exact ⟨_, _, rfl, h.now (.int _)⟩
  · exact h.elim
theorem c_str : CallK X K cl (.type "str") strN := by
  refine ⟨_, call_str_int, fun O H xs ds Q al r h => ?_⟩
  unfold strN at h
  split at h
  · obtain ⟨v, rfl, rv⟩ := r.one
    cases rv
    split at h
    · next c => exact ⟨_, rfl, c, h.now (.str _)⟩
    · exact h.elim
  · exact h.elim
/-- divmod by a positive divisor below 2 ^ 9000 -/
theorem call_dm : CallR X (.builtin "divmod") (fun xs H Q => ∃ i j, xs = [.int i, .int j] ∧ divOk j ∧ ∀ p, H p = none → Q (.ref p) (upd H p (.tup [.int (i / j), .int (i % j)]))) := by
  (intro pins s σ H xs us Q I r h)
  obtain ⟨i, j, rfl, ⟨pos, few⟩, q⟩ := h
  obtain ⟨u1, u2, rfl, ⟨t1, rfl⟩, ⟨t2, rfl⟩⟩ := vals2 r
  refine divmod_int (by omega) ?_ (.inl (PyProof.noPylong_of_log2 few))
  (rw [Int.fdiv_eq_ediv_of_nonneg i (by omega), Int.fmod_eq_emod_of_nonneg i (by omega)])
  refine ⟨.ref s.heap.objs.size, _, ?_, rfl, q _ (I.hok.fresh (Nat.le_refl _))⟩
  have two : ([.int (i / j), .int (i % j)] : List V).length ≤ sizeLine := by
    show 2 ≤ 2 ^ 24
    decide
  exact I.laid (fun b o e => Heap.get?_push_of_some _ e) (Nat.le_refl _) ⟨two, [.int (i / j) s.toks, .int (i % j) (s.toks + 1)], .cons ⟨_, rfl⟩ (.cons ⟨_, rfl⟩ .nil), _, Heap.get?_push_size s.heap rfl, rfl, 0, rfl⟩
theorem c_divmod : CallK X K cl (.builtin "divmod") divmodN := by
  refine ⟨_, call_dm, fun O H xs ds Q al r h => ?_⟩
  unfold divmodN at h
  split at h
  · obtain ⟨v, u, rfl, rv, ru⟩ := r.two
    cases rv
    cases ru
    split at h
    · next c =>
      refine ⟨_, _, rfl, c, fun p np => h.new np (.tup (.inl (.inl (hide_new al np))) (.cons (.int _) (.cons (.int _) .nil)))⟩
    · exact h.elim
  · exact h.elim
theorem c_tuple : CallK X X.K cl (.type "tuple") tupleN := by
  refine ⟨_, call_tuple_of, fun O H xs ds Q al r h => ?_⟩
  unfold tupleN at h
  split at h
  · obtain ⟨v, rfl, rv⟩ := r.one
    cases rv with
    | lst s r => exact ⟨_, _, rfl, .inl ⟨hide_le.seq s, fun p np => h.new np (.tup (.inl (.inl (hide_new al np))) (r.mono (hide_upd np)))⟩⟩
  · obtain ⟨v, rfl, rv⟩ := r.one
    cases rv with
    | tup s r => exact ⟨_, _, rfl, .inr ⟨same_sqT hide_le s, h.now (.tup s r)⟩⟩
  · exact h.elim
end
/-! ### repr of plain lists and tuples -/
mutual
/-- a bound for the text of plain data -/
def D.bound : D → Nat
  | .non => 4
  | .bl _ => 5
  | .int i => i.natAbs.log2 + 2
  | .str x => 10 * x.length + 2
  | .lst xs => D.bounds xs + 2
  | .tup xs => D.bounds xs + 3
  | .obj _ _ => 0
  | .dic _ _ => 0
  | .reg _ => 0
  | .err _ _ => 0
  | .cls _ => 0
  | .tab _ => 0
  | .fn _ _ _ _ _ => 0
  | .tz _ => 0
  | .box _ => 0
def D.bounds : List D → Nat
  | [] => 0
  | x :: xs => D.bound x + 2 + D.bounds xs
end
def reprN : OpN := fun ds => match ds with
  | [.lst xs] => if D.plains xs ∧ (D.py (.lst xs)).showable = true ∧ (D.py (.lst xs)).depth ≤ 60 ∧ (D.py (.lst xs)).shown.length ≤ sizeLine then ok (.str (D.py (.lst xs)).shown) else none
  | [.tup xs] => if D.plains xs ∧ (D.py (.tup xs)).showable = true ∧ (D.py (.tup xs)).depth ≤ 60 ∧ (D.py (.tup xs)).shown.length ≤ sizeLine then ok (.str (D.py (.tup xs)).shown) else none
  | _ => none
mutual
theorem nodict_py : ∀ d : D, d.py.hasDict = false
  | .non => by rw [D.py, PyData.hasDict]
  | .bl _ => by rw [D.py, PyData.hasDict]
  | .int _ => by rw [D.py, PyData.hasDict]
  | .str _ => by rw [D.py, PyData.hasDict]
  | .lst xs => by rw [D.py, PyData.hasDict]; exact nodict_pys xs
  | .tup xs => by rw [D.py, PyData.hasDict]; exact nodict_pys xs
  | .obj _ _ => by rw [D.py, PyData.hasDict]
  | .dic _ _ => by rw [D.py, PyData.hasDict]
  | .reg _ => by rw [D.py, PyData.hasDict]
  | .err _ _ => by rw [D.py, PyData.hasDict]
  | .cls _ => by rw [D.py, PyData.hasDict]
  | .tab _ => by rw [D.py, PyData.hasDict]
  | .fn _ _ _ _ _ => by rw [D.py, PyData.hasDict]
  | .tz _ => by rw [D.py, PyData.hasDict]
  | .box _ => by rw [D.py, PyData.hasDict]
theorem nodict_pys : ∀ ds : List D, PyData.hasDictAll (D.pys ds) = false
  | [] => by rw [D.pys, PyData.hasDictAll]
  | d :: ds => by rw [D.pys, PyData.hasDictAll, nodict_py d, nodict_pys ds]; rfl
end
/-- repr of what reads as d -/
def rRepr (K : PySem.W.Frag) : List V → Hp → VK → Prop := fun xs H Q => ∃ (a : Addr) (d : PyData), xs = [.ref a] ∧ Dp K H (.ref a) d ∧ d.showable = true ∧ d.hasDict = false ∧ d.depth ≤ 60 ∧ d.shown.length ≤ sizeLine ∧ Q (.str d.shown) H
section
variable {X : Cx} {cl : Cl} {wx : WX}
theorem call_repr (hg : X.A.guards = some []) (hu : X.A.units + 64 < cLine) : CallR X (.builtin "repr") (rRepr X.K) := by
  (intro pins s σ H xs us Q I r h)
  obtain ⟨a, d, rfl, hd, h1, h2, h3, h4, q⟩ := h
  (obtain ⟨u, rfl, ru⟩ := vals1 r)
  cases ru
  obtain ⟨as, rd⟩ := Dp.reads I d _ _ hd rfl
  refine repr_of_reads' rd h1 (PyData.noDict_hsm h2) hg (by omega) (fun _ _ e => e) (fun h' u tk hk => ?_) h4
  exact ⟨.str d.shown, H, I.kept hk, ⟨_, rfl⟩, q⟩
theorem c_repr (hg : X.A.guards = some []) (hu : X.A.units + 64 < cLine) : CallK X X.K cl (.builtin "repr") reprN := by
  refine ⟨_, call_repr hg hu, fun O H xs ds Q al r h => ?_⟩
  unfold reprN at h
  split at h
  · next ys =>
    obtain ⟨v, rfl, rv⟩ := r.one
    split at h
    · next c =>
      obtain ⟨c1, c2, c3, c4⟩ := c
      have hd : Dp X.K H v (D.py (.lst ys)) := rv.dp (by rw [D.plain]; exact c1)
      cases rv with
      | lst s r => exact ⟨_, _, rfl, hd, c2, nodict_py _, c3, c4, h.now (.str _)⟩
    · exact h.elim
  · next ys =>
    obtain ⟨v, rfl, rv⟩ := r.one
    split at h
    · next c =>
      obtain ⟨c1, c2, c3, c4⟩ := c
      have hd : Dp X.K H v (D.py (.tup ys)) := rv.dp (by rw [D.plain]; exact c1)
      cases rv with
      | tup s r => exact ⟨_, _, rfl, hd, c2, nodict_py _, c3, c4, h.now (.str _)⟩
    · exact h.elim
  · exact h.elim
end
end Dt
namespace Dt
open L2 PySem PySem.Spec PyProof.Rows
/-! ### what is walked -/
structure ItOK (K : PySem.W.Frag) (cl : Cl) (O : List Addr) (H0 : Hp) (ds : List D) (J : It) : Prop where
  go : ∀ (i : Nat) (O' : List Addr) (H : Hp), Same (hide O H0) (hide O' H) → i < ds.length → J.go i H
  stop : ∀ (i : Nat) (O' : List Addr) (H : Hp), Same (hide O H0) (hide O' H) → ds.length ≤ i → J.stop i H
  yld : ∀ (i : Nat) (O' : List Addr) (H : Hp) (x : V) (H' : Hp), Same (hide O H0) (hide O' H) → (∀ a ∈ O', H a ≠ none) → J.yld i H x H' → Same H H' ∧ ∀ d, ds[i]? = some d → Rp K cl (hide O' H') x d
def PostI (K : PySem.W.Frag) (cl : Cl) (wx : WX) (w : Wf) (L : List Addr) (σ : L2.St) (H : Hp) (R : It → Hp → Prop) : M (List D × S) → Prop
  | some (.ok (ds, s')) => ∀ J H', Step w L H L H' → Wl K cl w L s' σ H' → ItOK K cl (L ++ w.O0) H' ds J → R J H'
  | some (.ex e s') => Wish K cl wx w e s'
  | none => False
def TIof (K : PySem.W.Frag) (cl : Cl) (wx : WX) (f : S → M (List D × S)) : TI := fun σ H R => ∃ w L sd, Wl K cl w L sd σ H ∧ PostI K cl wx w L σ H R (f sd)
def iLst (fa : S → M (D × S)) : S → M (List D × S) := fun s => bd (fa s) fun p => match p.1 with
  | .lst ds => ok (ds, p.2)
  | _ => none
def iTp (fa : S → M (D × S)) : S → M (List D × S) := fun s => bd (fa s) fun p => match p.1 with
  | .tup ds => ok (ds, p.2)
  | _ => none
def rangeD (i : Int) (n : Nat) : List D := (List.range n).map fun (k : Nat) => D.int (i + (k : Int))
def rngOk (i : Int) : Prop := -(2 ^ 62) ≤ i ∧ i < 2 ^ 62
instance (i : Int) : Decidable (rngOk i) := by unfold rngOk; infer_instance
def iR1 (fr : S → M (List D × S)) : S → M (List D × S) := fun s => bd (fr s) fun p => match p.1 with
  | [.int j] => if rngOk j then ok (rangeD 0 j.toNat, p.2) else none
  | _ => none
def enumD : Nat → List D → List D
  | _, [] => []
  | i, d :: ds => .tup [.int i, d] :: enumD (i + 1) ds
def iEn (fr : S → M (List D × S)) : S → M (List D × S) := fun s => bd (fr s) fun p => match p.1 with
  | [.lst ds] => ok (enumD 0 ds, p.2)
  | _ => none
def zipD : List D → List D → List D
  | d :: ds, e :: es => .tup [d, e] :: zipD ds es
  | _, _ => []
theorem rangeD_len (i : Int) (n : Nat) : (rangeD i n).length = n := by simp [rangeD]
theorem rangeD_get (i : Int) (n k : Nat) (h : k < n) : (rangeD i n)[k]? = some (.int (i + (k : Int))) := by
  unfold rangeD
  rw [List.getElem?_map, List.getElem?_range h]
  rfl
theorem enumD_len : ∀ (i : Nat) (ds : List D), (enumD i ds).length = ds.length
  | _, [] => rfl
  | i, d :: ds => by rw [enumD, List.length_cons, List.length_cons, enumD_len]
theorem enumD_get : ∀ (i : Nat) (ds : List D) (k : Nat), (enumD i ds)[k]? = (ds[k]?).map fun d => .tup [.int ((i + k : Nat) : Int), d]
  | _, [], k => by simp [enumD]
  | i, d :: ds, 0 => by simp [enumD]
  | i, d :: ds, k + 1 => by
    rw [enumD, List.getElem?_cons_succ, enumD_get (i + 1) ds k, List.getElem?_cons_succ]
    have e : i + 1 + k = i + (k + 1) := by omega
    rw [e]
section
variable {X : Cx} {K : PySem.W.Frag} {cl : Cl} {wx : WX} {pos p : Pos} {tg l a b e : Expr} {fa : S → M (D × S)} {fr : S → M (List D × S)}
theorem iP {X : Cx} {tg e : Expr} {t t' : TI} (h : PI X tg e t) (k : ∀ σ H Q, t' σ H Q → t σ H Q) : PI X tg e t' := ⟨fun pins s σ H Q I q => h.run pins s σ H Q I (k σ H Q q)⟩
theorem botI {w : Wf} {L : List Addr} {σ : L2.St} {H : Hp} {R : It → Hp → Prop} : Bot K cl wx w (PostI K cl wx w L σ H R) := ⟨fun h => h, fun _ _ h => h⟩
theorem itok_list {O : List Addr} {H0 : Hp} {a : Addr} {xs : List V} {ds : List D} (s : SqL K (hide O H0) a xs) (r : RpA K cl (hide O H0) xs ds) : ItOK K cl O H0 ds (Itl K a) where
  go := fun i O' H sm hi => by
    have e := r.len
    exact ⟨xs, xs[i], hide_le.seq (sm.seq s), List.getElem?_eq_getElem (by omega)⟩
  stop := fun i O' H sm hi => ⟨xs, hide_le.seq (sm.seq s), by rw [r.len]; exact hi⟩
  yld := fun i O' H x H' sm al y => by
    obtain ⟨rfl, y⟩ := y
    refine ⟨Same.refl _, fun d hd => ?_⟩
    obtain ⟨v, h1, h2⟩ := r.get i hd
    have h3 := y xs (hide_le.seq (sm.seq s))
    rw [h1] at h3
    cases h3
    exact h2.mono sm
theorem itok_tup {O : List Addr} {H0 : Hp} {a : Addr} {xs : List V} {ds : List D} (s : SqT K (hide O H0) a xs) (r : RpA K cl (hide O H0) xs ds) : ItOK K cl O H0 ds (Itt K a) where
  go := fun i O' H sm hi => by
    have e := r.len
    exact ⟨xs, xs[i], same_sqT hide_le (same_sqT sm s), List.getElem?_eq_getElem (by omega)⟩
  stop := fun i O' H sm hi => ⟨xs, same_sqT hide_le (same_sqT sm s), by rw [r.len]; exact hi⟩
  yld := fun i O' H x H' sm al y => by
    obtain ⟨rfl, y⟩ := y
    refine ⟨Same.refl _, fun d hd => ?_⟩
    obtain ⟨v, h1, h2⟩ := r.get i hd
    have h3 := y xs (same_sqT hide_le (same_sqT sm s))
    rw [h1] at h3
    cases h3
    exact h2.mono sm
theorem itok_rng {O : List Addr} {H0 : Hp} {i : Int} {n : Nat} : ItOK K cl O H0 (rangeD i n) (Itr i n) where
  go := fun k O' H sm hk => by rw [rangeD_len] at hk; exact hk
  stop := fun k O' H sm hk => by rw [rangeD_len] at hk; exact hk
  yld := fun k O' H x H' sm al y => by
    obtain ⟨rfl, rfl⟩ := y
    refine ⟨Same.refl _, fun d hd => ?_⟩
    have hk : k < n := by
      have := (List.getElem?_eq_some_iff.mp hd).1
      rwa [rangeD_len] at this
    rw [rangeD_get i n k hk] at hd
    cases hd
    exact .int _
theorem itok_en {O : List Addr} {H0 : Hp} {a : Addr} {xs : List V} {ds : List D} (s : SqL K (hide O H0) a xs) (r : RpA K cl (hide O H0) xs ds) : ItOK K cl O H0 (enumD 0 ds) (Ite K a) where
  go := fun i O' H sm hi => by
    have e := r.len
    rw [enumD_len] at hi
    exact ⟨xs, xs[i], hide_le.seq (sm.seq s), List.getElem?_eq_getElem (by omega)⟩
  stop := fun i O' H sm hi => ⟨xs, hide_le.seq (sm.seq s), by rw [r.len]; rw [enumD_len] at hi; exact hi⟩
  yld := fun i O' H x H' sm al y => by
    obtain ⟨T, x1, rfl, nT, rfl, y⟩ := y
    refine ⟨same_upd nT, fun d hd => ?_⟩
    rw [enumD_get] at hd
    cases q : ds[i]? with
    | none => rw [q] at hd; cases hd
    | some d1 =>
      rw [q] at hd
      cases hd
      obtain ⟨v, h1, h2⟩ := r.get i q
      have h3 := y xs (hide_le.seq (sm.seq s))
      rw [h1] at h3
      cases h3
      refine .tup (.inl (.inl (hide_new al nT))) (.cons ?_ (.cons ((h2.mono sm).mono (hide_upd nT)) .nil))
      have e : (0 + i : Nat) = i := by omega
      rw [e]
      exact .int _
theorem w_list (hl : PE X l (TEof X.K cl wx fa)) : PI X tg l (TIof X.K cl wx (iLst fa)) := by
  refine iP (pi_list hl) ?_
  rintro σ H Q ⟨w, L, sd, W, h⟩
  refine ⟨w, L, sd, W, PostE.bd botI h fun r s1 h v H1 st1 W1 rr => ?_⟩
  cases rr with
  | lst s r => exact ⟨_, rfl, ⟨_, hide_le.seq s⟩, h _ H1 st1 W1 (itok_list s r)⟩
  | _ => exact h.elim
theorem w_tup (hl : PE X l (TEof X.K cl wx fa)) : PI X tg l (TIof X.K cl wx (iTp fa)) := by
  refine iP (pi_tup hl) ?_
  rintro σ H Q ⟨w, L, sd, W, h⟩
  refine ⟨w, L, sd, W, PostE.bd botI h fun r s1 h v H1 st1 W1 rr => ?_⟩
  cases rr with
  | tup s r => exact ⟨_, rfl, ⟨_, same_sqT hide_le s⟩, h _ H1 st1 W1 (itok_tup s r)⟩
  | _ => exact h.elim
theorem w_range1 (hm : X.mg "range" = none) (ha : PA X [a] (TAof K cl wx fr)) (hg : Gl X "range" := by rfl) (hs : starEach [a] X.env = [(false, eval a X.env)] := by rfl) : PI X tg (.Call (.Name "range" p) [a] [] pos) (TIof K cl wx (iR1 fr)) := by
  refine iP (pi_range1 hg hm ha hs) ?_
  rintro σ H Q ⟨w, L, sd, W, h⟩
  refine ⟨w, L, sd, W, PostA.bd botI h fun rs s1 h vs H1 st1 W1 rr => ?_⟩
  dsimp only at h
  split at h
  · obtain ⟨v, rfl, rv⟩ := rr.one
    cases rv
    split at h
    · next c => exact ⟨_, rfl, c.1, c.2, h _ H1 st1 W1 itok_rng⟩
    · exact h.elim
  · exact h.elim
theorem w_enum {elts : List Expr} {kk : Nat} {tpos : Pos} (hm : X.mg "enumerate" = none) (ha : PA X [e] (TAof X.K cl wx fr)) (hg : Gl X "enumerate" := by rfl) (hs : starEach [e] X.env = [(false, eval e X.env)] := by rfl) : PI X (.Tuple elts kk tpos) (.Call (.Name "enumerate" p) [e] [] pos) (TIof X.K cl wx (iEn fr)) := by
  refine iP (pi_enum hg hm ha hs) ?_
  rintro σ H Q ⟨w, L, sd, W, h⟩
  refine ⟨w, L, sd, W, PostA.bd botI h fun rs s1 h vs H1 st1 W1 rr => ?_⟩
  dsimp only at h
  split at h
  · obtain ⟨v, rfl, rv⟩ := rr.one
    cases rv with
    | lst s r => exact ⟨_, _, rfl, hide_le.seq s, h _ H1 st1 W1 (itok_en s r)⟩
  · exact h.elim
end
/-! ### targets -/
/-- the slots other than ts are as they were -/
structure Agree (ts : List Nat) (σ σ' : L2.St) : Prop where
  len : σ'.length = σ.length
  out : ∀ i, i ∉ ts → σ'[i]? = σ[i]?
def PostG (K : PySem.W.Frag) (cl : Cl) (wx : WX) (ts : List Nat) (w : Wf) (L : List Addr) (σ : L2.St) (H : Hp) (Q : L2.St → Hp → Prop) : M S → Prop
  | some (.ok s') => ∀ σ' H', Step w L H L H' → Wl K cl w L s' σ' H' → Agree ts σ σ' → Q σ' H'
  | _ => False
def TGof (K : PySem.W.Frag) (cl : Cl) (wx : WX) (ts : List Nat) (f : D → S → M S) : TG := fun v σ H Q => ∃ w L sd d, Wl K cl w L sd σ H ∧ Rp K cl (hide (L ++ w.O0) H) v d ∧ PostG K cl wx ts w L σ H Q (f d sd)
def TGsof (K : PySem.W.Frag) (cl : Cl) (wx : WX) (ts : List Nat) (f : List D → S → M S) : TGs := fun vs σ H Q => ∃ w L sd ds, Wl K cl w L sd σ H ∧ RpA K cl (hide (L ++ w.O0) H) vs ds ∧ PostG K cl wx ts w L σ H Q (f ds sd)
def gNm (i : Nat) : D → S → M S := fun d s => ok (s.set i (.val d))
def gTp (f : List D → S → M S) : D → S → M S := fun d s => match d with
  | .tup ds => f ds s
  | _ => none
def gsNil : List D → S → M S := fun ds s => match ds with
  | [] => ok s
  | _ => none
def gsCons (f : D → S → M S) (g : List D → S → M S) : List D → S → M S := fun ds s => match ds with
  | d :: ds => bd (f d s) fun s1 => g ds s1
  | _ => none
section
variable {X : Cx} {K : PySem.W.Frag} {cl : Cl} {wx : WX} {pos : Pos} {w : Wf} {L : List Addr} {sd : S} {σ : L2.St} {H : Hp}
/-- a slot takes a value -/
theorem Wl.set (W : Wl K cl w L sd σ H) {i : Nat} {v : V} {d : D} (r : Rp K cl (hide (L ++ w.O0) H) v d) : Wl K cl w L (sd.set i (.val d)) (σ.set i (some v)) H := by
  have get : ∀ {j : Nat} {x : Sl}, j ≠ i → (sd.set i (.val d))[j]? = some x → sd[j]? = some x := fun h e => by rwa [List.getElem?_set_ne (Ne.symm h)] at e
  have getv : ∀ {j : Nat} {x : Option V}, j ≠ i → σ[j]? = some x → (σ.set i (some v))[j]? = some x := fun h e => by rwa [List.getElem?_set_ne (Ne.symm h)]
  have nown : ∀ {x : Sl}, (sd.set i (.val d))[i]? = some x → x = .val d ∧ i < sd.length := fun {x} e => by
    by_cases h : i < sd.length
    · rw [List.getElem?_set_self h] at e; cases e; exact ⟨rfl, h⟩
    · rw [List.getElem?_eq_none (by simpa using h)] at e; cases e
  refine ⟨W.keep, W.fresh, W.alive, W.disj, W.sub, ⟨fun j e he => ?_, fun j e he => ?_, fun j e he => ?_, fun j k e f a he hf h1 h2 => ?_, fun j k e f he hf => ?_, by simpa using W.st.len, W.st.tr.put fun j x e => by
    by_cases h : j = i
    · subst h; exact .inl ⟨d, (nown e).1⟩
    · exact .inr (.inr ⟨get h e, List.getElem?_set_ne (Ne.symm h)⟩)⟩⟩
  · by_cases h : j = i
    · subst h
      obtain ⟨q, hl⟩ := nown he
      cases q
      exact ⟨v, List.getElem?_set_self (by rw [W.st.len]; exact hl), r⟩
    · obtain ⟨u, h1, h2⟩ := W.st.val j e (get h he)
      exact ⟨u, getv h h1, h2⟩
  · by_cases h : j = i
    · subst h; cases (nown he).1
    · obtain ⟨a, h1, h2, h3⟩ := W.st.own j e (get h he)
      exact ⟨a, getv h h1, h2, h3⟩
  · by_cases h : j = i
    · subst h; cases (nown he).1
    · obtain ⟨h1, h2, h3⟩ := W.st.io j e (get h he)
      exact ⟨getv h h1, h2, h3⟩
  · by_cases hj : j = i
    · subst hj; cases (nown he).1
    · by_cases hk : k = i
      · subst hk; cases (nown hf).1
      · rw [List.getElem?_set_ne (Ne.symm hj)] at h1
        rw [List.getElem?_set_ne (Ne.symm hk)] at h2
        exact W.st.inj j k e f a (get hj he) (get hk hf) h1 h2
  · by_cases hj : j = i
    · subst hj; cases (nown he).1
    · by_cases hk : k = i
      · subst hk; cases (nown hf).1
      · exact W.st.ioj j k e f (get hj he) (get hk hf)
theorem iG {X : Cx} {e : Expr} {t t' : TG} (h : PG X e t) (k : ∀ v σ H Q, t' v σ H Q → t v σ H Q) : PG X e t' := ⟨fun pins s σ H v u Q I r q => h.run pins s σ H v u Q I r (k v σ H Q q)⟩
theorem iGs {X : Cx} {e : List Expr} {t t' : TGs} (h : PGs X e t) (k : ∀ v σ H Q, t' v σ H Q → t v σ H Q) : PGs X e t' := ⟨fun pins s σ H v u Q I r q => h.run pins s σ H v u Q I r (k v σ H Q q)⟩
theorem g_name (i : Nat) {x : Str} (hN : X.N.Nodup) (hi : X.N[i]? = some x := by rfl) (hx : Loc X.env.scope x := by first | exact Or.inl rfl | exact Or.inr rfl) (hf : X.fn x = true ∨ X.env.scope.names.lookup x = some .local := by first | exact .inl rfl | exact .inr rfl) : PG X (.Name x pos) (TGof K cl wx [i] (gNm i)) := by
  refine iG (pg_name hN hi hx hf) ?_
  rintro v σ H Q ⟨w, L, sd, d, W, r, h⟩
  exact h _ H .refl (W.set r) ⟨by rw [List.length_set], fun j hj => by
    rw [List.getElem?_set_ne]
    intro e
    exact hj (by simp [e])⟩
theorem gs_nil : PGs X [] (TGsof K cl wx [] gsNil) := by
  refine iGs pgs_nil ?_
  rintro v σ H Q ⟨w, L, sd, d, W, r, h⟩
  cases r with
  | nil => exact ⟨rfl, h σ H .refl W ⟨rfl, fun _ _ => rfl⟩⟩
  | cons a b => exact h.elim
theorem gs_cons {e : Expr} {es : List Expr} {ts us : List Nat} {f : D → S → M S} {g : List D → S → M S} (h1 : PG X e (TGof K cl wx ts f)) (h2 : PGs X es (TGsof K cl wx us g))
    (hs : (assignEach (e :: es) X.env).map (·.2) = assign e X.env :: (assignEach es X.env).map (·.2) := by rfl) : PGs X (e :: es) (TGsof K cl wx (ts ++ us) (gsCons f g)) := by
  refine iGs (pgs_cons h1 h2 hs) ?_
  rintro vs σ H Q ⟨w, L, sd, ds, W, r, h⟩
  cases r with
  | nil => exact h.elim
  | @cons v vs d ds a b =>
    refine ⟨v, vs, rfl, w, L, sd, d, W, a, ?_⟩
    have h : PostG K cl wx (ts ++ us) w L σ H Q (bd (f d sd) fun s1 => g ds s1) := h
    match (f d sd : M S), h with
    | none, h => exact h.elim
    | some (.ex _ _), h => exact h.elim
    | some (.ok s1), h =>
      intro σ1 H1 st1 W1 k1
      refine ⟨w, L, s1, ds, W1, b.mono (st1.sn W1), ?_⟩
      have h : PostG K cl wx (ts ++ us) w L σ H Q (g ds s1) := h
      match (g ds s1 : M S), h with
      | none, h => exact h.elim
      | some (.ex _ _), h => exact h.elim
      | some (.ok s2), h =>
        intro σ2 H2 st2 W2 k2
        refine h σ2 H2 (st1.trans st2) W2 ⟨k2.len.trans k1.len, fun i hi => ?_⟩
        rw [k2.out i fun z => hi (List.mem_append_right _ z), k1.out i fun z => hi (List.mem_append_left _ z)]
theorem gsl_nil : ∀ ds s s', gsNil ds s = some (.ok s') → ds.length = 0 := fun ds s s' h => by
  cases ds with
  | nil => rfl
  | cons d ds => cases h
theorem gsl_cons {f : D → S → M S} {g : List D → S → M S} {n : Nat} (hg : ∀ ds s s', g ds s = some (.ok s') → ds.length = n) : ∀ ds s s', gsCons f g ds s = some (.ok s') → ds.length = n + 1 := fun ds s s' h => by
  cases ds with
  | nil => cases h
  | cons d ds =>
    have h : bd (f d s) (fun s1 => g ds s1) = some (.ok s') := h
    generalize f d s = m at h
    match m, h with
    | none, h => cases h
    | some (.ex _ _), h => cases h
    | some (.ok s1), h =>
      have h : g ds s1 = some (.ok s') := h
      rw [List.length_cons, hg ds s1 s' h]
/-- a target raises nothing -/
class NoX (f : D → S → M S) : Prop where
  no : ∀ d s e s', f d s = some (.ex e s') → False
class NoXs (f : List D → S → M S) : Prop where
  no : ∀ d s e s', f d s = some (.ex e s') → False
instance (i : Nat) : NoX (gNm i) := ⟨fun d s e s' h => by cases h⟩
instance : NoXs gsNil := ⟨fun d s e s' h => by
  cases d <;> cases h⟩
instance (f : D → S → M S) (g : List D → S → M S) [a : NoX f] [b : NoXs g] : NoXs (gsCons f g) := ⟨fun d s e s' h => by
  cases d with
  | nil => cases h
  | cons d ds =>
    have h : bd (f d s) (fun s1 => g ds s1) = some (.ex e s') := h
    generalize q : f d s = m at h
    match m, h with
    | some (.ex _ _), h => exact a.no _ _ _ _ q
    | some (.ok s1), h => exact b.no _ _ _ _ h⟩
instance (f : List D → S → M S) [a : NoXs f] : NoX (gTp f) := ⟨fun d s e s' h => by
  cases d with
  | tup ds => exact a.no _ _ _ _ h
  | _ => cases h⟩
theorem g_tup {es : List Expr} {k : Nat} {ts : List Nat} {f : List D → S → M S} (hc : X.calm = true) (h : PGs X es (TGsof X.K cl wx ts f)) (n : Nat) (hf : ∀ ds s s', f ds s = some (.ok s') → ds.length = n)
    (hn : (assignEach es X.env).length = n := by rfl) (hst : (assignEach es X.env).findIdx? (·.1) = none := by rfl) : PG X (.Tuple es k pos) (TGof X.K cl wx ts (gTp f)) := by
  refine iG (pg_tup hc h hn hst) ?_
  rintro v σ H Q ⟨w, L, sd, d, W, r, h⟩
  cases r with
  | @tup a xs ds s r =>
    have h : PostG X.K cl wx ts w L σ H Q (f ds sd) := h
    refine ⟨a, xs, rfl, same_sqT hide_le s, ?_, w, L, sd, ds, W, r, h⟩
    rw [r.len]
    generalize e : f ds sd = m at h
    match m, h with
    | none, h => exact h.elim
    | some (.ex _ _), h => exact h.elim
    | some (.ok s1), _ => exact hf ds sd s1 e
  | _ => exact h.elim
end
end Dt
namespace Dt
open L2 PySem PySem.Spec PyProof.Rows
/-! ### comprehensions -/
def wipeS (s : S) : List Nat → S
  | [] => s
  | v :: vs => (wipeS s vs).set v .un
/-- what a value slot held -/
def keepV : Option Sl → Sl
  | some (.val d) => .val d
  | _ => .un
def restS (s0 s : S) : List Nat → S
  | [] => s
  | v :: vs => (restS s0 s vs).set v (keepV s0[v]?)
theorem wipeS_len (s : S) : ∀ vs : List Nat, (wipeS s vs).length = s.length
  | [] => rfl
  | v :: vs => by rw [wipeS, List.length_set, wipeS_len s vs]
theorem restS_len (s0 s : S) : ∀ vs : List Nat, (restS s0 s vs).length = s.length
  | [] => rfl
  | v :: vs => by rw [restS, List.length_set, restS_len s0 s vs]
theorem wipeS_out (s : S) (i : Nat) : ∀ vs : List Nat, i ∉ vs → (wipeS s vs)[i]? = s[i]?
  | [], _ => rfl
  | v :: vs, h => by
    rw [wipeS, List.getElem?_set_ne (fun e => h (by simp [e]))]
    exact wipeS_out s i vs fun z => h (List.mem_cons_of_mem _ z)
theorem wipeS_in (s : S) (i : Nat) (x : Sl) : ∀ vs : List Nat, i ∈ vs → (wipeS s vs)[i]? = some x → x = .un
  | [], h, _ => by simp at h
  | v :: vs, h, e => by
    rw [wipeS] at e
    by_cases q : v = i
    · subst q
      by_cases hl : v < (wipeS s vs).length
      · rw [List.getElem?_set_self hl] at e; cases e; rfl
      · rw [List.getElem?_eq_none (by simpa using hl)] at e; cases e
    · rw [List.getElem?_set_ne q] at e
      (rcases List.mem_cons.mp h with z | z)
      · exact absurd z.symm q
      · exact wipeS_in s i x vs z e
theorem wipe_out (σ : L2.St) (i : Nat) : ∀ vs : List Nat, i ∉ vs → (wipe σ vs)[i]? = σ[i]?
  | [], _ => rfl
  | v :: vs, h => by
    rw [wipe, List.getElem?_set_ne (fun e => h (by simp [e]))]
    exact wipe_out σ i vs fun z => h (List.mem_cons_of_mem _ z)
theorem wipe_in (σ : L2.St) (i : Nat) : ∀ vs : List Nat, i ∈ vs → (wipe σ vs)[i]? = if i < σ.length then some none else none
  | [], h => by simp at h
  | v :: vs, h => by
    rw [wipe]
    by_cases q : v = i
    · subst q
      rw [List.getElem?_set, if_pos rfl, wipe_length]
    · rw [List.getElem?_set_ne q]
      (rcases List.mem_cons.mp h with z | z)
      · exact absurd z.symm q
      · exact wipe_in σ i vs z
theorem wipe_eq {σ σ' : L2.St} {vs ts : List Nat} (h : Agree ts σ σ') (hs : ∀ i ∈ ts, i ∈ vs) : wipe σ' vs = wipe σ vs := by
  apply List.ext_getElem?
  intro i
  by_cases z : i ∈ vs
  · rw [wipe_in σ' i vs z, wipe_in σ i vs z, h.len]
  · rw [wipe_out σ' i vs z, wipe_out σ i vs z]
    exact h.out i fun y => z (hs i y)
theorem wipe_wipe (σ : L2.St) (vs : List Nat) : wipe (wipe σ vs) vs = wipe σ vs := by
  apply List.ext_getElem?
  intro i
  by_cases z : i ∈ vs
  · rw [wipe_in _ i vs z, wipe_in σ i vs z, wipe_length]
  · rw [wipe_out _ i vs z]
theorem restS_out (s0 s : S) (i : Nat) : ∀ vs : List Nat, i ∉ vs → (restS s0 s vs)[i]? = s[i]?
  | [], _ => rfl
  | v :: vs, h => by
    rw [restS, List.getElem?_set_ne (fun e => h (by simp [e]))]
    exact restS_out s0 s i vs fun z => h (List.mem_cons_of_mem _ z)
theorem restS_in (s0 s : S) (i : Nat) (x : Sl) : ∀ vs : List Nat, i ∈ vs → (restS s0 s vs)[i]? = some x → x = keepV s0[i]?
  | [], h, _ => by simp at h
  | v :: vs, h, e => by
    rw [restS] at e
    by_cases q : v = i
    · subst q
      by_cases hl : v < (restS s0 s vs).length
      · rw [List.getElem?_set_self hl] at e; cases e; rfl
      · rw [List.getElem?_eq_none (by simpa using hl)] at e; cases e
    · rw [List.getElem?_set_ne q] at e
      (rcases List.mem_cons.mp h with z | z)
      · exact absurd z.symm q
      · exact restS_in s0 s i x vs z e
theorem keepV_val {o : Option Sl} {d : D} (h : Sl.val d = keepV o) : o = some (.val d) := by
  match o, h with
  | none, h => cases h
  | some .un, h => cases h
  | some (.val e), h => cases h; rfl
  | some (.own e), h => cases h
  | some (.io e), h => cases h
  | some (.tre b e), h => cases h
theorem keepV_own {o : Option Sl} {d : D} (h : Sl.own d = keepV o) : False := by
  match o, h with
  | none, h => cases h
  | some .un, h => cases h
  | some (.val e), h => cases h
  | some (.own e), h => cases h
  | some (.io e), h => cases h
  | some (.tre b e), h => cases h
theorem keepV_io {o : Option Sl} {d : D} (h : Sl.io d = keepV o) : False := by
  match o, h with
  | none, h => cases h
  | some .un, h => cases h
  | some (.val e), h => cases h
  | some (.own e), h => cases h
  | some (.io e), h => cases h
  | some (.tre b e), h => cases h
theorem keepV_tre {o : Option Sl} {b : Nat} {d : D} (h : Sl.tre b d = keepV o) : False := by
  match o, h with
  | none, h => cases h
  | some .un, h => cases h
  | some (.val e), h => cases h
  | some (.own e), h => cases h
  | some (.io e), h => cases h
  | some (.tre b e), h => cases h
def compL (vs : List Nat) (T : D → S → M S) (ft : S → M (Bool × S)) (fe : S → M (D × S)) : List D → S → M (List D × S)
  | [], s => ok ([], s)
  | d :: ds, s => bd (T d s) fun s1 => bd (ft s1) fun p => if p.1 = true then bd (fe p.2) fun q => bd (compL vs T ft fe ds (wipeS q.2 vs)) fun r => ok (q.1 :: r.1, r.2) else compL vs T ft fe ds (wipeS p.2 vs)
/-- no exception comes out of a comprehension -/
def nx {α : Type} (m : M α) : M α := match m with
  | some (.ex _ _) => none
  | m => m
theorem nx_ok {α : Type} (a : α) : nx (ok a) = ok a := by
  have h : nx (ok a) = ok a := rfl
  exact h
/-- nothing is wished of exceptions -/
abbrev noW : WX := fun _ _ _ _ => False
def dComp (fi : S → M (List D × S)) (vs : List Nat) (T : D → S → M S) (ft : S → M (Bool × S)) (fe : S → M (D × S)) : S → M (D × S) := fun s =>
  bd (fi s) fun p => if p.1.length ≤ sizeLine then bd (nx (compL vs T ft fe p.1 (wipeS p.2 vs))) fun q => ok (.lst q.1, restS p.2 q.2 vs) else none
def tTrue : S → M (Bool × S) := fun s => ok (true, s)
section
variable {X : Cx} {K : PySem.W.Frag} {cl : Cl} {wx : WX} {pos : Pos} {w : Wf} {L : List Addr} {sd : S} {σ : L2.St} {H : Hp}
theorem Wl.wiped (W : Wl K cl w L sd σ H) (vs : List Nat) : Wl K cl w L (wipeS sd vs) (wipe σ vs) H := by
  have back : ∀ {i : Nat} {x : Sl}, x ≠ .un → (wipeS sd vs)[i]? = some x → i ∉ vs ∧ sd[i]? = some x := fun {i x} hx e => by
    by_cases z : i ∈ vs
    · exact absurd (wipeS_in sd i x vs z e) hx
    · rw [wipeS_out sd i vs z] at e; exact ⟨z, e⟩
  refine ⟨W.keep, W.fresh, W.alive, W.disj, W.sub, ⟨fun i d e => ?_, fun i d e => ?_, fun i d e => ?_, fun i j d e a h1 h2 h3 h4 => ?_, fun i j d e h1 h2 => ?_, by rw [wipe_length, wipeS_len]; exact W.st.len, W.st.tr.put fun j x e => by
    by_cases z : j ∈ vs
    · exact .inr (.inl (wipeS_in sd j x vs z e))
    · rw [wipeS_out sd j vs z] at e
      exact .inr (.inr ⟨e, wipe_out σ j vs z⟩)⟩⟩
  · obtain ⟨n, e⟩ := back (by simp) e
    rw [wipe_out σ i vs n]
    exact W.st.val i d e
  · obtain ⟨n, e⟩ := back (by simp) e
    rw [wipe_out σ i vs n]
    exact W.st.own i d e
  · obtain ⟨n, e⟩ := back (by simp) e
    rw [wipe_out σ i vs n]
    exact W.st.io i d e
  · obtain ⟨n1, h1⟩ := back (by simp) h1
    obtain ⟨n2, h2⟩ := back (by simp) h2
    rw [wipe_out σ i vs n1] at h3
    rw [wipe_out σ j vs n2] at h4
    exact W.st.inj i j d e a h1 h2 h3 h4
  · exact W.st.ioj i j d e (back (by simp) h1).2 (back (by simp) h2).2
/-- the same with one more address that is hidden from outside -/
abbrev Wf.more (w : Wf) (p : Addr) : Wf := { w with O0 := p :: w.O0 }
theorem mem_more {p a : Addr} {L O : List Addr} : a ∈ L ++ p :: O ↔ a = p ∨ a ∈ L ++ O := by
  simp only [List.mem_append, List.mem_cons]
  constructor
  · rintro (h | h | h)
    · exact .inr (.inl h)
    · exact .inl h
    · exact .inr (.inr h)
  · rintro (h | h | h)
    · exact .inr (.inl h)
    · exact .inl h
    · exact .inr (.inr h)
theorem Wl.more (W : Wl K cl w L sd σ H) {p : Addr} {o : HO} (np : H p = none) : Same (hide (L ++ w.O0) H) (hide (L ++ (w.more p).O0) (upd H p o)) ∧ Wl K cl (w.more p) L sd σ (upd H p o) := by
  have hp := W.new_ne np
  have s := same_upd (o := o) np
  have sh : Same (hide (L ++ w.O0) H) (hide (L ++ (w.more p).O0) (upd H p o)) := fun b u e => by
    obtain ⟨n, e⟩ := hide_some.mp e
    refine hide_some.mpr ⟨fun z => ?_, s b u e⟩
    rcases mem_more.mp z with z | z
    · rw [z, np] at e; cases e
    · exact n z
  have W' := W.ext s
  have own : ∀ {a d}, OwnAt K cl w.H0 (L ++ w.O0) H a d → OwnAt K cl w.H0 (L ++ (w.more p).O0) (upd H p o) a d := fun {a d} h => by
    refine h.move ?_ sh
    cases q : H a with
    | none => exact absurd q h.some
    | some o => exact s a o q
  refine ⟨sh, W'.keep, W.fresh, fun a ha => ?_, fun a ha z => ?_, fun a ha => List.mem_cons_of_mem _ (W.sub a ha), ⟨fun i d e => ?_, fun i d e => ?_, fun i d e => ?_, W.st.inj, W.st.ioj, W.st.len, W.st.tr.same sh rfl fun x hx _ _ => ⟨same_at s (W.alive x (hx.elim (List.mem_append_left _) fun z => List.mem_append_right _ (W.sub x z))), hx⟩⟩⟩
  · rcases mem_more.mp ha with z | z
    · rw [z, upd_same]; simp
    · exact W'.alive a z
  · (rcases List.mem_cons.mp z with z | z)
    · exact hp (List.mem_append_left _ (z ▸ ha))
    · exact W.disj a ha z
  · obtain ⟨v, h1, h2⟩ := W.st.val i d e
    exact ⟨v, h1, h2.mono sh⟩
  · obtain ⟨a, h1, h2, h3⟩ := W.st.own i d e
    exact ⟨a, h1, h2, own h3⟩
  · obtain ⟨h1, h2, h3⟩ := W.st.io i d e
    exact ⟨h1, h2, own h3⟩
theorem Wl.back {H1 : Hp} {s1 sE : S} {vs : List Nat} {p : Addr} (W' : Wl K cl (w.more p) L sE (wipe σ vs) H) (W1 : Wl K cl w L s1 σ H1) (np : H1 p = none) (sh : Same (hide (L ++ w.O0) H1) (hide (L ++ (w.more p).O0) H)) (ex : ∀ i ∈ vs, ∀ x, sE[i]? = some x → x = Sl.un)
    (L2 : List Addr) (h2 : ∀ a ∈ L2, a ∈ L ∨ a = p) (h3 : ∀ a ∈ L, a ∈ L2) : Wl K cl w L2 (restS s1 sE vs) σ H := by
  have sb : Same (hide (L ++ (w.more p).O0) H) (hide (L2 ++ w.O0) H) := hide_sub fun a ha => by
    rcases List.mem_append.mp ha with z | z
    · rcases h2 a z with z | z
      · exact mem_more.mpr (.inr (List.mem_append_left _ z))
      · exact mem_more.mpr (.inl z)
    · exact mem_more.mpr (.inr (List.mem_append_right _ z))
  have hp := W1.new_ne np
  have out : ∀ {i : Nat} {x : Sl}, i ∉ vs → (restS s1 sE vs)[i]? = some x → sE[i]? = some x := fun h e => by rwa [restS_out s1 sE _ vs h] at e
  refine ⟨W'.keep, fun a ha => ?_, fun a ha => ?_, fun a ha => ?_, W1.sub, ⟨fun i d e => ?_, fun i d e => ?_, fun i d e => ?_, fun i j d e a q1 q2 q3 q4 => ?_, fun i j d e q1 q2 => ?_, ?_, W'.st.tr.move sb (fun i b d q => by
    have z1 : i ∉ vs := fun z => (keepV_tre (restS_in s1 sE i _ vs z q)).elim
    exact ⟨out z1 q, (wipe_out σ i vs z1).symm, fun _ => rfl⟩) (fun i d a q1 q2 => by
    have z1 : i ∉ vs := fun z => (keepV_own (restS_in s1 sE i _ vs z q1)).elim
    exact .inl ⟨i, d, out z1 q1, (wipe_out σ i vs z1).trans q2⟩) (fun i d q => by
    have z1 : i ∉ vs := fun z => (keepV_io (restS_in s1 sE i _ vs z q)).elim
    exact ⟨rfl, i, d, out z1 q⟩) fun x hx _ _ => ⟨rfl, hx.imp (h3 x) id⟩⟩⟩
  · rcases h2 a ha with z | z
    · exact W1.fresh a z
    · subst z
      cases q : w.H0 a with
      | none => rfl
      | some o =>
        by_cases hI : a ∈ w.I
        · exact absurd (List.mem_append_right _ (W1.sub a hI)) hp
        · have := W1.keep a o hI q
          rw [np] at this; cases this
  · refine W'.alive a (mem_more.mpr ?_)
    rcases List.mem_append.mp ha with z | z
    · rcases h2 a z with z | z
      · exact .inr (List.mem_append_left _ z)
      · exact .inl z
    · exact .inr (List.mem_append_right _ z)
  · rcases h2 a ha with z | z
    · exact W1.disj a z
    · rw [z]; exact fun y => hp (List.mem_append_right _ y)
  · by_cases z : i ∈ vs
    · obtain ⟨v, q1, q2⟩ := W1.st.val i d (keepV_val (restS_in s1 sE i _ vs z e))
      exact ⟨v, q1, (q2.mono sh).mono sb⟩
    · obtain ⟨v, q1, q2⟩ := W'.st.val i d (out z e)
      rw [wipe_out σ i vs z] at q1
      exact ⟨v, q1, q2.mono sb⟩
  · by_cases z : i ∈ vs
    · exact (keepV_own (restS_in s1 sE i _ vs z e)).elim
    · obtain ⟨a, q1, q2, q3⟩ := W'.st.own i d (out z e)
      rw [wipe_out σ i vs z] at q1
      exact ⟨a, q1, h3 a q2, q3.move rfl sb⟩
  · by_cases z : i ∈ vs
    · exact (keepV_io (restS_in s1 sE i _ vs z e)).elim
    · obtain ⟨q1, q2, q3⟩ := W'.st.io i d (out z e)
      rw [wipe_out σ i vs z] at q1
      exact ⟨q1, q2, q3.move rfl sb⟩
  · have z1 : i ∉ vs := fun z => (keepV_own (restS_in s1 sE i _ vs z q1)).elim
    have z2 : j ∉ vs := fun z => (keepV_own (restS_in s1 sE j _ vs z q2)).elim
    refine W'.st.inj i j d e a (out z1 q1) (out z2 q2) ?_ ?_
    · rw [wipe_out σ i vs z1]; exact q3
    · rw [wipe_out σ j vs z2]; exact q4
  · have z1 : i ∉ vs := fun z => (keepV_io (restS_in s1 sE i _ vs z q1)).elim
    have z2 : j ∉ vs := fun z => (keepV_io (restS_in s1 sE j _ vs z q2)).elim
    exact W'.st.ioj i j d e (out z1 q1) (out z2 q2)
  · have := W'.st.len
    rw [wipe_length] at this
    rw [restS_len]; exact this
theorem t_nil : PTs X [] (TTof K cl wx tTrue) := ⟨fun pins s σ H Q I h => pts_nil.run pins s σ H Q I (by
  obtain ⟨w, L, sd, W, h⟩ := h
  exact h H .refl W)⟩
theorem Step.re {w' : Wf} {L' : List Addr} {H' : Hp} (s : Step w L H L' H') (e : w'.I = w.I) : Step w' L H L' H' := ⟨fun b o h1 h2 => s.keep b o h1 (by rw [← e]; exact h2), s.alv, s.new⟩
/-- the reading of a comprehension -/
theorem comp_read {fi : S → M (List D × S)} {vs ts : List Nat} {T : D → S → M S} {ft : S → M (Bool × S)} {fe : S → M (D × S)} (hts : ∀ i ∈ ts, i ∈ vs) :
    ∀ σ H Q, TFof K cl wx (dComp fi vs T ft fe) σ H Q → tLc (TIof K cl wx fi) (TGof K cl noW ts T) (TTof K cl noW ft) (TEof K cl noW fe) vs σ H Q := by
  rintro σ H Q ⟨w, L, sd, W, h⟩
  refine ⟨w, L, sd, W, ?_⟩
  unfold dComp at h
  match (fi sd : M (List D × S)), h with
  | none, h => exact h.elim
  | some (.ex _ _), h => exact h
  | some (.ok (ds, s1)), h =>
    intro J H1 st1 W1 it p np
    have h : PostF K cl wx w L σ H Q (if ds.length ≤ sizeLine then bd (nx (compL vs T ft fe ds (wipeS s1 vs))) fun q => ok (.lst q.1, restS s1 q.2 vs) else none) := h
    by_cases hz : ds.length ≤ sizeLine
    case neg => rw [if_neg hz] at h; exact h.elim
    rw [if_pos hz] at h
    generalize e0 : compL vs T ft fe ds (wipeS s1 vs) = m at h
    match m, h with
    | none, h => exact h.elim
    | some (.ex _ _), h => exact h.elim
    | some (.ok (ys, sE)), h =>
      obtain ⟨sh, Wm⟩ := W1.more (p := p) (o := .lst []) np
      have Wm0 := Wm.wiped vs
      have hpI : p ∉ w.I := fun z => W1.new_ne np (List.mem_append_right _ (W1.sub p z))
      have hpL : p ∉ L := fun z => W1.new_ne np (List.mem_append_left _ z)
      refine ⟨fun i m H => m = ds.length - i ∧ i ≤ ds.length ∧ ∃ acc accD s zs, Wl K cl (w.more p) L s (wipe σ vs) H ∧ Step w L H1 L H ∧ H p = some (.lst acc) ∧ RpA K cl (hide (L ++ (w.more p).O0) H) acc accD ∧ acc.length ≤ i ∧
        compL vs T ft fe (ds.drop i) s = ok (zs, sE) ∧ ys = accD ++ zs ∧ (∀ j ∈ vs, ∀ x, s[j]? = some x → x = Sl.un),
        ⟨ds.length, by omega, Nat.zero_le _, [], [], wipeS s1 vs, ys, Wm0, .of_same (same_upd np), upd_same, .nil, Nat.le_refl _, e0, rfl, fun j hj x e => wipeS_in s1 j x vs hj e⟩, ?_⟩
      rintro i m H2 ⟨rfl, hi, acc, accD, s, zs, Ws, stw, hp, ra, hl, ec, ey, hun⟩
      have shi : Same (hide (L ++ w.O0) H1) (hide (L ++ (w.more p).O0) H2) := fun b o z => by
        obtain ⟨n, z'⟩ := hide_some.mp (stw.seen W1.sub b o z)
        refine hide_some.mpr ⟨fun y => ?_, z'⟩
        rcases mem_more.mp y with y | y
        · rw [y] at z; have := hide_le _ _ z; rw [np] at this; cases this
        · exact n y
      by_cases hlt : i < ds.length
      · refine .inr ⟨it.go i _ H2 shi hlt, fun H' => ∃ acc accD s zs, Wl K cl (w.more p) L s (wipe σ vs) H' ∧ Step w L H1 L H' ∧ H' p = some (.lst acc) ∧ RpA K cl (hide (L ++ (w.more p).O0) H') acc accD ∧ acc.length ≤ i + 1 ∧
          compL vs T ft fe (ds.drop (i + 1)) s = ok (zs, sE) ∧ ys = accD ++ zs ∧ (∀ j ∈ vs, ∀ x, s[j]? = some x → x = Sl.un),
          fun H' q => ⟨ds.length - (i + 1), by omega, rfl, hlt, q⟩, fun x H3 hy => ?_⟩
        obtain ⟨sm, hx⟩ := it.yld i _ H2 x H3 shi Ws.alive hy
        have hx := hx ds[i] (List.getElem?_eq_getElem hlt)
        rw [List.drop_eq_getElem_cons hlt] at ec
        have W3 := Ws.ext sm
        have st3 : Step w L H1 L H3 := stw.trans (.of_same sm)
        have ra3 := ra.mono ((Step.of_same (w := w.more p) (L := L) sm).sn Ws)
        have hp3 := sm p _ hp
        refine ⟨w.more p, L, s, ds[i], W3, hx, ?_⟩
        have ec : bd (T ds[i] s) (fun s1 => bd (ft s1) fun p => if p.1 = true then bd (fe p.2) fun q => bd (compL vs T ft fe (ds.drop (i + 1)) (wipeS q.2 vs)) fun r => ok (q.1 :: r.1, r.2) else compL vs T ft fe (ds.drop (i + 1)) (wipeS p.2 vs)) = ok (zs, sE) := ec
        match (T ds[i] s : M S), ec with
        | none, ec => cases ec
        | some (.ex _ _), ec => cases ec
        | some (.ok s4), ec =>
          intro σ4 H4 st4 W4 k4
          have hw4 : wipe σ4 vs = wipe σ vs := by
            rw [wipe_eq k4 hts, wipe_wipe]
          refine ⟨by rw [hw4], w.more p, L, s4, W4, ?_⟩
          have st4' : Step w L H1 L H4 := st3.trans (st4.re rfl)
          have ec : bd (ft s4) (fun p => if p.1 = true then bd (fe p.2) fun q => bd (compL vs T ft fe (ds.drop (i + 1)) (wipeS q.2 vs)) fun r => ok (q.1 :: r.1, r.2) else compL vs T ft fe (ds.drop (i + 1)) (wipeS p.2 vs)) = ok (zs, sE) := ec
          have keepP : ∀ {Ha Hb : Hp}, Step (w.more p) L Ha L Hb → Ha p = some (.lst acc) → Hb p = some (.lst acc) := fun st e => st.keep p _ hpL (fun z => hpI z) e
          match (ft s4 : M (Bool × S)), ec with
          | none, ec => cases ec
          | some (.ex _ _), ec => cases ec
          | some (.ok (b, s5)), ec =>
            intro H5 st5 W5
            have st5' : Step w L H1 L H5 := st4'.trans (st5.re rfl)
            have hp5 := keepP (st4.trans st5) hp3
            have ra5 : RpA K cl (hide (L ++ (w.more p).O0) H5) acc accD := ra3.mono ((st4.trans st5).seen Wm.sub)
            cases b with
            | false =>
              refine iteF ?_
              have ec : compL vs T ft fe (ds.drop (i + 1)) (wipeS s5 vs) = ok (zs, sE) := ec
              have W6 := W5.wiped vs
              rw [hw4] at W6
              exact ⟨acc, accD, wipeS s5 vs, zs, W6, st5', hp5, ra5, by omega, ec, ey, fun j hj x e => wipeS_in s5 j x vs hj e⟩
            | true =>
              refine iteT ⟨w.more p, L, s5, W5, ?_⟩
              have ec : bd (fe s5) (fun q => bd (compL vs T ft fe (ds.drop (i + 1)) (wipeS q.2 vs)) fun r => ok (q.1 :: r.1, r.2)) = ok (zs, sE) := ec
              match (fe s5 : M (D × S)), ec with
              | none, ec => cases ec
              | some (.ex _ _), ec => cases ec
              | some (.ok (y, s6)), ec =>
                intro v H6 st6 W6 rv
                have hp6 := keepP st6 hp5
                have ra6 : RpA K cl (hide (L ++ (w.more p).O0) H6) acc accD := ra5.mono (st6.seen Wm.sub)
                refine ⟨acc, hp6, by omega, ?_⟩
                have ec : bd (compL vs T ft fe (ds.drop (i + 1)) (wipeS s6 vs)) (fun r => ok (y :: r.1, r.2)) = ok (zs, sE) := ec
                generalize e7 : compL vs T ft fe (ds.drop (i + 1)) (wipeS s6 vs) = m7 at ec
                match m7, ec with
                | none, ec => cases ec
                | some (.ex _ _), ec => cases ec
                | some (.ok (zs', sE')), ec =>
                  cases ec
                  -- the list grows; it is hidden
                  have hne : ∀ a ∈ L, a ≠ p := fun a ha e => hpL (e ▸ ha)
                  have pin : p ∈ L ++ (w.more p).O0 := mem_more.mpr (.inl rfl)
                  have hh : hide (L ++ (w.more p).O0) (upd H6 p (.lst (acc ++ [v]))) = hide (L ++ (w.more p).O0) H6 := by
                    funext b
                    unfold hide
                    by_cases z : b ∈ L ++ (w.more p).O0
                    · rw [if_pos z, if_pos z]
                    · rw [if_neg z, if_neg z, upd_ne]
                      intro e
                      exact z (e ▸ pin)
                  have W7 := W6.wiped vs
                  rw [hw4] at W7
                  have own : ∀ {a d}, a ≠ p → OwnAt K cl w.H0 (L ++ (w.more p).O0) H6 a d → OwnAt K cl w.H0 (L ++ (w.more p).O0) (upd H6 p (.lst (acc ++ [v]))) a d := fun {a d} n q => q.move (upd_ne n) (by rw [hh]; exact Same.refl _)
                  have W8 : Wl K cl (w.more p) L (wipeS s6 vs) (wipe σ vs) (upd H6 p (.lst (acc ++ [v]))) := by
                    refine ⟨fun b o n e => ?_, W7.fresh, fun a ha => ?_, W7.disj, W7.sub, ⟨fun i d e => ?_, fun i d e => ?_, fun i d e => ?_, W7.st.inj, W7.st.ioj, W7.st.len, W7.st.tr.same (by rw [hh]; exact Same.refl _) rfl fun x hx _ _ => ⟨upd_ne fun z => hx.elim (fun y => hne x y z) fun y => hpI (z ▸ y), hx⟩⟩⟩
                    · by_cases z : b = p
                      · subst z
                        have := W1.keep b o n e
                        rw [np] at this; cases this
                      · rw [upd_ne z]; exact W7.keep b o n e
                    · by_cases z : a = p
                      · rw [z, upd_same]; simp
                      · rw [upd_ne z]; exact W7.alive a ha
                    · obtain ⟨u, q1, q2⟩ := W7.st.val i d e
                      exact ⟨u, q1, by rw [hh]; exact q2⟩
                    · obtain ⟨a, q1, q2, q3⟩ := W7.st.own i d e
                      exact ⟨a, q1, q2, own (hne a q2) q3⟩
                    · obtain ⟨q1, q2, q3⟩ := W7.st.io i d e
                      exact ⟨q1, q2, own (fun z => hpI (z ▸ q2)) q3⟩
                  refine ⟨acc ++ [v], accD ++ [y], wipeS s6 vs, zs', W8, ?_, upd_same, ?_, by rw [List.length_append]; simp; omega, e7, ?_, fun j hj x e => wipeS_in s6 j x vs hj e⟩
                  · have s6' : Step w L H1 L H6 := st5'.trans (st6.re rfl)
                    refine ⟨fun b o n1 n2 e => ?_, fun b e => ?_, s6'.new⟩
                    · rw [upd_ne (ne_of_none e np)]; exact s6'.keep b o n1 n2 e
                    · by_cases z : b = p
                      · rw [z, upd_same]; simp
                      · rw [upd_ne z]; exact s6'.alv b e
                  · rw [hh]; exact ra6.append (.cons rv .nil)
                  · rw [ey, List.append_assoc]; rfl
      · have ei : i = ds.length := by omega
        subst ei
        rw [List.drop_length] at ec
        have ec : (ok (([] : List D), s) : M (List D × S)) = ok (zs, sE) := ec
        cases ec
        rw [List.append_nil] at ey
        subst ey
        refine .inl ⟨it.stop _ _ H2 shi (Nat.le_refl _), ?_⟩
        have nw : ∀ a ∈ p :: L, a ∈ L ∨ H a = none := fun a ha => by
          rcases List.mem_cons.mp ha with z | z
          · refine .inr ?_
            cases q : H a with
            | none => rfl
            | some o => exact absurd (z ▸ np) (st1.alv a (by rw [q]; simp))
          · exact .inl z
        have sT := st1.trans stw
        refine h p H2 ⟨sT.keep, sT.alv, nw⟩ (W1.new_ne np) ?_ ?_ ⟨acc, hp, ra.mono (hide_sub fun a ha => ?_)⟩
        · exact Ws.back W1 np shi hun L (fun a z => .inl z) (fun a z => z)
        · exact Ws.back W1 np shi hun (p :: L) (fun a z => (List.mem_cons.mp z).symm) (fun a z => List.mem_cons_of_mem _ z)
        · refine mem_more.mpr ?_
          rcases List.mem_cons.mp ha with z | z
          · exact .inl z
          · exact .inr z
/-- [elt for tg in iter ..] -/
theorem f_comp {elt tg iter : Expr} {ifs : List Expr} {scope : Scope} {own : List (Str × Nat)} {fi : S → M (List D × S)} {ts : List Nat} {T : D → S → M S} {ft : S → M (Bool × S)} {fe : S → M (D × S)}
    (hc : X.calm = true) (hN : X.N.Nodup) (hi : PI X tg iter (TIof K cl wx fi)) (ok : BlkOk X.N X.env.scope scope own)
    (hg : ∀ (s : Shared) (H : Hp) (C : Addr) (cls : List (Str × Addr)) (fp : List Addr), PG (X.blk s H scope (compEnvC scope cls C X.env) fp) tg (TGof K cl noW ts T))
    (ht : ∀ (s : Shared) (H : Hp) (C : Addr) (cls : List (Str × Addr)) (fp : List Addr), PTs (X.blk s H scope (compEnvC scope cls C X.env) fp) ifs (TTof K cl noW ft))
    (he : ∀ (s : Shared) (H : Hp) (C : Addr) (cls : List (Str × Addr)) (fp : List Addr), PE (X.blk s H scope (compEnvC scope cls C X.env) fp) elt (TEof K cl noW fe))
    (hts : ∀ i ∈ ts, i ∈ own.map (·.2)) (hs : ∀ x, foldedSetIterable iter X.env x = pure x := by intro _; rfl) : PE X (.ListComp elt [⟨tg, iter, ifs, 0⟩] scope pos) (TFof K cl wx (dComp fi (own.map (·.2)) T ft fe)) :=
  iE (pe_lc hc hN hi ok hg ht he hs) (comp_read hts)
end
end Dt
namespace Dt
open L2 PySem PySem.Spec PyProof.Rows
/-! ### statements -/
inductive Out where
  | nx (s : S)
  | bk (s : S)
  | ct (s : S)
  | rt (d : D) (s : S)
  | rf (d : D) (s : S)
def PostS (K : PySem.W.Frag) (cl : Cl) (wx : WX) (ts : List Nat) (w : Wf) (L : List Addr) (σ : L2.St) (H : Hp) (E : Ends) : M Out → Prop
  | some (.ok (.nx s')) => ∀ L' σ' H', Step w L H L' H' → Wl K cl w L' s' σ' H' → Agree ts σ σ' → E.nx σ' H'
  | some (.ok (.bk s')) => ∀ L' σ' H', Step w L H L' H' → Wl K cl w L' s' σ' H' → Agree ts σ σ' → E.bk σ' H'
  | some (.ok (.ct s')) => ∀ L' σ' H', Step w L H L' H' → Wl K cl w L' s' σ' H' → Agree ts σ σ' → E.ct σ' H'
  | some (.ok (.rt d s')) => ∀ L' σ' H' v, Step w L H L' H' → Wl K cl w L' s' σ' H' → Rp K cl (hide (L' ++ w.O0) H') v d → E.rt v H'
  | some (.ok (.rf d s')) => ∀ L' σ' H' p, Step w L H L' H' → Wl K cl w L' s' σ' H' → w.H0 p = none → p ∉ w.O0 → OwnAt K cl w.H0 (p :: w.O0) H' p d → E.rt (.ref p) H'
  | some (.ex e s') => Wish K cl wx w e s'
  | none => False
def TSof (K : PySem.W.Frag) (cl : Cl) (wx : WX) (ts : List Nat) (f : S → M Out) : TS := fun E σ H => ∃ w L sd, Wl K cl w L sd σ H ∧ PostS K cl wx ts w L σ H E (f sd)
section
variable {K : PySem.W.Frag} {cl : Cl} {wx : WX} {w : Wf} {L L1 : List Addr} {σ σ1 : L2.St} {H H1 : Hp} {E E' : Ends} {ts us : List Nat} {s1 : S}
theorem botS : Bot K cl wx w (PostS K cl wx ts w L σ H E) := ⟨fun h => h, fun _ _ h => h⟩
theorem Agree.refl : Agree ts σ σ := ⟨rfl, fun _ _ => rfl⟩
theorem Agree.trans {σ2 : L2.St} (a : Agree ts σ σ1) (b : Agree us σ1 σ2) : Agree (ts ++ us) σ σ2 :=
  ⟨b.len.trans a.len, fun i hi => (b.out i fun z => hi (List.mem_append_right _ z)).trans (a.out i fun z => hi (List.mem_append_left _ z))⟩
theorem Agree.le (a : Agree ts σ σ1) (h : ∀ i ∈ ts, i ∈ us) : Agree us σ σ1 := ⟨a.len, fun i hi => a.out i fun z => hi (h i z)⟩
/-- the statement's end, seen from further back -/
theorem PostS.from {m : M Out} (h : PostS K cl wx us w L σ H E m) (st : Step w L H L1 H1) (ag : ∀ σ', Agree ts σ1 σ' → Agree us σ σ') : PostS K cl wx ts w L1 σ1 H1 E m := by
  match m, h with
  | none, h => exact h.elim
  | some (.ex _ _), h => exact h
  | some (.ok (.nx s)), h => exact fun L' σ' H' a b c => h L' σ' H' (st.trans a) b (ag σ' c)
  | some (.ok (.bk s)), h => exact fun L' σ' H' a b c => h L' σ' H' (st.trans a) b (ag σ' c)
  | some (.ok (.ct s)), h => exact fun L' σ' H' a b c => h L' σ' H' (st.trans a) b (ag σ' c)
  | some (.ok (.rt d s)), h => exact fun L' σ' H' v a b c => h L' σ' H' v (st.trans a) b c
  | some (.ok (.rf d s)), h => exact fun L' σ' H' v a b c d e => h L' σ' H' v (st.trans a) b c d e
end
/-! ### blocks -/
def sNil : S → M Out := fun s => ok (.nx s)
def sSeq (F G : S → M Out) : S → M Out := fun s => bd (F s) fun o => match o with
  | .nx s1 => G s1
  | o => ok o
def sBreak : S → M Out := fun s => ok (.bk s)
def sNever : S → M Out := fun _ => none
def sIf (c : S → M (Bool × S)) (F G : S → M Out) : S → M Out := fun s => bd (c s) fun p => if p.1 = true then F p.2 else G p.2
def sSet (i : Nat) (f : S → M (D × S)) : S → M Out := fun s => bd (f s) fun p => ok (.nx (p.2.set i (.val p.1)))
def sOwn (i : Nat) (f : S → M (D × S)) : S → M Out := fun s => bd (f s) fun p => ok (.nx (p.2.set i (.own p.1)))
def sAsg (f : S → M (D × S)) (T : D → S → M S) : S → M Out := fun s => bd (f s) fun p => bd (T p.1 p.2) fun s1 => ok (.nx s1)
def sPar (i j : Nat) (f : S → M (List D × S)) : S → M Out := fun s => bd (f s) fun p => match p.1 with
  | [d, e] => ok (.nx ((p.2.set i (.val d)).set j (.val e)))
  | _ => none
def sPar3 (i j l : Nat) (f : S → M (List D × S)) : S → M Out := fun s => bd (f s) fun p => match p.1 with
  | [d, e, g] => ok (.nx (((p.2.set i (.val d)).set j (.val e)).set l (.val g)))
  | _ => none
def sExpr (f : S → M (D × S)) : S → M Out := fun s => bd (f s) fun p => ok (.nx p.2)
def sRet (f : S → M (D × S)) : S → M Out := fun s => bd (f s) fun p => ok (.rt p.1 p.2)
def sRetF (f : S → M (D × S)) : S → M Out := fun s => bd (f s) fun p => ok (.rf p.1 p.2)
def sRetN : S → M Out := fun s => ok (.rt .non s)
def sAugI (i : Nat) (f : S → M (D × S)) (g : Op2) : S → M Out := fun s => bd (dVar i s) fun q => bd (f q.2) fun p => bd (g q.1 p.1) fun r => ok (.nx (p.2.set i (.val r)))
section
variable {X : Cx} {K : PySem.W.Frag} {cl : Cl} {wx : WX} {pos : Pos} {st : Stmt} {rest a b : List Stmt} {ts us : List Nat} {F G : S → M Out} {c : S → M (Bool × S)} {f : S → M (D × S)} {fr : S → M (List D × S)} {e ce : Expr}
theorem s_nil : PSs X [] (TSof K cl wx [] sNil) := by
  refine iSs pss_nil ?_
  rintro E σ H ⟨w, L, sd, W, h⟩
  exact h L σ H .refl W .refl
theorem seq_read {t u : TS} {E : Ends} {σ : L2.St} {H : Hp} (ht : t = TSof K cl wx ts F) (hu : u = TSof K cl wx us G) (h : TSof K cl wx (ts ++ us) (sSeq F G) E σ H) : tSeq t u E σ H := by
  subst ht hu
  obtain ⟨w, L, sd, W, h⟩ := h
  refine ⟨w, L, sd, W, ?_⟩
  have h : PostS K cl wx (ts ++ us) w L σ H E (bd (F sd) fun o => match o with
    | .nx s1 => G s1
    | o => ok o) := h
  match (F sd : M Out), h with
  | none, h => exact h.elim
  | some (.ex _ _), h => exact h
  | some (.ok (.nx s)), h => exact fun L' σ' H' a b c => ⟨w, L', s, b, PostS.from h a fun σ2 d => c.trans d⟩
  | some (.ok (.bk s)), h => exact fun L' σ' H' a b c => h L' σ' H' a b (c.le fun i hi => List.mem_append_left _ hi)
  | some (.ok (.ct s)), h => exact fun L' σ' H' a b c => h L' σ' H' a b (c.le fun i hi => List.mem_append_left _ hi)
  | some (.ok (.rt d s)), h => exact h
  | some (.ok (.rf d s)), h => exact h
theorem s_cons (h1 : PS X st (TSof K cl wx ts F)) (h2 : PSs X rest (TSof K cl wx us G)) : PSs X (st :: rest) (TSof K cl wx (ts ++ us) (sSeq F G)) :=
  iSs (pss_cons h1 h2) fun E σ H h => seq_read rfl rfl h
theorem s_one (h1 : PS X st (TSof K cl wx ts F)) : PSs X [st] (TSof K cl wx ts F) := pss_one h1
theorem s_if (hc : PT X ce (TTof K cl wx c)) (ha : PSs X a (TSof K cl wx ts F)) (hb : PSs X b (TSof K cl wx us G)) : PS X (.If ce a b pos) (TSof K cl wx (ts ++ us) (sIf c F G)) := by
  refine iS (ps_if hc ha hb) ?_
  rintro E σ H ⟨w, L, sd, W, h⟩
  refine ⟨w, L, sd, W, PostT.bd botS h fun r s1 h H1 st1 W1 => ?_⟩
  cases r with
  | true => exact iteT ⟨w, L, s1, W1, PostS.from h st1 fun σ' a => a.le fun i hi => List.mem_append_left _ hi⟩
  | false => exact iteF ⟨w, L, s1, W1, PostS.from h st1 fun σ' a => a.le fun i hi => List.mem_append_right _ hi⟩
theorem agree_set {σ : L2.St} {i : Nat} {x : Option V} : Agree [i] σ (σ.set i x) := ⟨by rw [List.length_set], fun j hj => by
  rw [List.getElem?_set_ne]
  intro e
  exact hj (by simp [e])⟩
theorem s_set (i : Nat) {x : Str} {pos' : Pos} (hN : X.N.Nodup) (he : PE X e (TEof K cl wx f)) (hi : X.N[i]? = some x := by rfl) (hx : Loc X.env.scope x := by first | exact Or.inl rfl | exact Or.inr rfl) (hs : swapsWith e (some (.Name x pos')) pos.line X.env = pure false := by rfl)
    (hf : X.fn x = true ∨ X.env.scope.names.lookup x = some .local := by first | exact .inl rfl | exact .inr rfl) : PS X (.Assign [.Name x pos'] e pos) (TSof K cl wx [i] (sSet i f)) := by
  refine iS (ps_set hN hi hx he hs hf) ?_
  rintro E σ H ⟨w, L, sd, W, h⟩
  refine ⟨w, L, sd, W, PostE.bd botS h fun r s1 h v H1 st1 W1 rr => ?_⟩
  exact h L _ H1 st1 (W1.set rr) agree_set
/-- a slot takes a new list of the def's own -/
theorem Wl.setOwn {w : Wf} {L : List Addr} {sd : S} {σ : L2.St} {H : Hp} {p : Addr} {d : D} (i : Nat) (W1 : Wl K cl w L sd σ H) (np : p ∉ L ++ w.O0) (W : Wl K cl w (p :: L) sd σ H) (r : OwnAt K cl w.H0 (p :: L ++ w.O0) H p d) : Wl K cl w (p :: L) (sd.set i (.own d)) (σ.set i (some (.ref p))) H := by
  have get : ∀ {j : Nat} {x : Sl}, j ≠ i → (sd.set i (.own d))[j]? = some x → sd[j]? = some x := fun h e => by rwa [List.getElem?_set_ne (Ne.symm h)] at e
  have getv : ∀ {j : Nat} {x : Option V}, j ≠ i → σ[j]? = some x → (σ.set i (some (.ref p)))[j]? = some x := fun h e => by rwa [List.getElem?_set_ne (Ne.symm h)]
  have gotv : ∀ {j : Nat} {x : Option V}, j ≠ i → (σ.set i (some (.ref p)))[j]? = some x → σ[j]? = some x := fun h e => by rwa [List.getElem?_set_ne (Ne.symm h)] at e
  have nown : ∀ {x : Sl}, (sd.set i (.own d))[i]? = some x → x = .own d ∧ i < sd.length := fun {x} e => by
    by_cases h : i < sd.length
    · rw [List.getElem?_set_self h] at e; cases e; exact ⟨rfl, h⟩
    · rw [List.getElem?_eq_none (by simpa using h)] at e; cases e
  have other : ∀ {j : Nat} {e : D}, sd[j]? = some (.own e) → σ[j]? = some (some (.ref p)) → False := fun {j e} h1 h2 => by
    obtain ⟨a, q1, q2, _⟩ := W1.st.own j e h1
    rw [h2] at q1
    cases q1
    exact np (List.mem_append_left _ q2)
  refine ⟨W.keep, W.fresh, W.alive, W.disj, W.sub, ⟨fun j e he => ?_, fun j e he => ?_, fun j e he => ?_, fun j k e f a he hf h1 h2 => ?_, fun j k e f he hf => ?_, by simpa using W.st.len, ?_⟩⟩
  · by_cases h : j = i
    · subst h; cases (nown he).1
    · obtain ⟨u, h1, h2⟩ := W.st.val j e (get h he)
      exact ⟨u, getv h h1, h2⟩
  · by_cases h : j = i
    · subst h
      obtain ⟨q, hl⟩ := nown he
      cases q
      exact ⟨p, List.getElem?_set_self (by rw [W.st.len]; exact hl), List.mem_cons_self, r⟩
    · obtain ⟨a, h1, h2, h3⟩ := W.st.own j e (get h he)
      exact ⟨a, getv h h1, h2, h3⟩
  · by_cases h : j = i
    · subst h; cases (nown he).1
    · obtain ⟨h1, h2, h3⟩ := W.st.io j e (get h he)
      exact ⟨getv h h1, h2, h3⟩
  · by_cases hj : j = i
    · by_cases hk : k = i
      · rw [hj, hk]
      · subst hj
        have hl := (nown he).2
        rw [List.getElem?_set_self (by rw [W.st.len]; exact hl)] at h1
        cases h1
        exact (other (get hk hf) (gotv hk h2)).elim
    · by_cases hk : k = i
      · subst hk
        have hl := (nown hf).2
        rw [List.getElem?_set_self (by rw [W.st.len]; exact hl)] at h2
        cases h2
        exact (other (get hj he) (gotv hj h1)).elim
      · exact W.st.inj j k e f a (get hj he) (get hk hf) (gotv hj h1) (gotv hk h2)
  · by_cases hj : j = i
    · subst hj; cases (nown he).1
    · by_cases hk : k = i
      · subst hk; cases (nown hf).1
      · exact W.st.ioj j k e f (get hj he) (get hk hf)
  · refine W.st.tr.setOwnP (W1.st.tr.out (fun z => np (List.mem_append_left _ z)) fun z => np (List.mem_append_right _ (W.sub p z))) fun j x e => ?_
    by_cases h : j = i
    · subst h
      obtain ⟨q, hl⟩ := nown e
      exact .inl ⟨d, q, List.getElem?_set_self (by rw [W.st.len]; exact hl)⟩
    · exact .inr ⟨get h e, List.getElem?_set_ne (Ne.symm h)⟩
theorem s_own (i : Nat) {x : Str} {pos' : Pos} (hN : X.N.Nodup) (he : PE X e (TFof K cl wx f)) (hi : X.N[i]? = some x := by rfl) (hx : Loc X.env.scope x := by first | exact Or.inl rfl | exact Or.inr rfl) (hs : swapsWith e (some (.Name x pos')) pos.line X.env = pure false := by rfl)
    (hf : X.fn x = true ∨ X.env.scope.names.lookup x = some .local := by first | exact .inl rfl | exact .inr rfl) : PS X (.Assign [.Name x pos'] e pos) (TSof K cl wx [i] (sOwn i f)) := by
  refine iS (ps_set hN hi hx he hs hf) ?_
  rintro E σ H ⟨w, L, sd, W, h⟩
  refine ⟨w, L, sd, W, PostF.bd botS h fun r s1 h p H1 st1 np W1 W2 ho => ?_⟩
  exact h (p :: L) _ H1 st1 (W1.setOwn i np W2 (ho.old fun _ z => W.old z)) agree_set
theorem s_asg {tg : Expr} {T : D → S → M S} [nt : NoX T] (he : PE X e (TEof K cl wx f)) (hg : PG X tg (TGof K cl wx ts T)) (hs : swapsWithSole [tg] e pos.line X.env = pure false := by rfl) (hw : swappedStores [tg] e X.env = pure none := by rfl)
    (h1 : (assignEach [tg] X.env).map (·.2) = [assign tg X.env] := by rfl) : PS X (.Assign [tg] e pos) (TSof K cl wx ts (sAsg f T)) := by
  refine iS (ps_asg he hg hs hw h1) ?_
  rintro E σ H ⟨w, L, sd, W, h⟩
  refine ⟨w, L, sd, W, PostE.bd botS h fun r s1 h v H1 st1 W1 rr => ?_⟩
  refine ⟨w, L, s1, r, W1, rr, ?_⟩
  dsimp only at h
  generalize e0 : T r s1 = m at h
  match m, h with
  | none, h => exact h.elim
  | some (.ex _ _), h => exact (nt.no _ _ _ _ e0).elim
  | some (.ok s2), h => exact fun σ2 H2 st2 W2 ag => h L σ2 H2 (st1.trans st2) W2 ag
theorem s_par {i j : Nat} {x y : Str} {a b : Expr} {px py pt : Pos} {kt k2 pt2} (hc : X.calm = true) (hN : X.N.Nodup) (ha : PA X [a, b] (TAof K cl wx fr)) (hi : X.N[i]? = some x := by rfl) (hj : X.N[j]? = some y := by rfl) (hij : i ≠ j := by decide)
    (hx : X.env.scope.names.lookup x = some .local := by rfl) (hy : X.env.scope.names.lookup y = some .local := by rfl)
    (hw : swappedStores [.Tuple [.Name x px, .Name y py] kt pt] (.Tuple [a, b] k2 pt2) X.env = pure (some [x, y]) := by rfl)
    (hs : swapsWithSole [.Tuple [.Name x px, .Name y py] kt pt]
          (.Tuple [a, b] k2 pt2) pos.line X.env = pure false := by rfl) :
    PS X (.Assign [.Tuple [.Name x px, .Name y py] kt pt] (.Tuple [a, b] k2 pt2) pos) (TSof K cl wx ([i] ++ [j]) (sPar i j fr)) := by
  refine iS (ps_par hc hN hi hj hij hx hy ha hw hs) ?_
  rintro E σ H ⟨w, L, sd, W, h⟩
  refine ⟨w, L, sd, W, PostA.bd botS h fun rs s1 h vs H1 st1 W1 rrs => ?_⟩
  dsimp only at h
  split at h
  · obtain ⟨v, u, rfl, r1, r2⟩ := rrs.two
    exact ⟨v, u, rfl, h L _ H1 st1 ((W1.set r1).set r2) (agree_set.trans agree_set)⟩
  · exact h.elim
theorem s_expr (he : PE X e (TEof K cl wx f)) (hs : swapsWith e none pos.line X.env = pure false := by rfl) : PS X (.Expr e pos) (TSof K cl wx [] (sExpr f)) := by
  refine iS (ps_expr he hs) ?_
  rintro E σ H ⟨w, L, sd, W, h⟩
  refine ⟨w, L, sd, W, PostE.bd botS h fun r s1 h v H1 st1 W1 rr => ?_⟩
  exact h L σ H1 st1 W1 .refl
theorem s_ret (he : PE X e (TEof K cl wx f)) : PS X (.Return (some e) pos) (TSof K cl wx [] (sRet f)) := by
  refine iS (ps_ret he) ?_
  rintro E σ H ⟨w, L, sd, W, h⟩
  refine ⟨w, L, sd, W, PostE.bd botS h fun r s1 h v H1 st1 W1 rr => ?_⟩
  exact h L σ H1 v st1 W1 rr
theorem s_retF (he : PE X e (TFof K cl wx f)) : PS X (.Return (some e) pos) (TSof K cl wx [] (sRetF f)) := by
  refine iS (ps_ret he) ?_
  rintro E σ H ⟨w, L, sd, W, h⟩
  refine ⟨w, L, sd, W, PostF.bd botS h fun r s1 h p H1 st1 np W1 W2 ho => ?_⟩
  refine h (p :: L) σ H1 p st1 W2 (W2.fresh p List.mem_cons_self) (fun z => np (List.mem_append_right _ z)) ((ho.old fun _ z => W.old z).move rfl (hide_sub fun a ha => ?_))
  rcases List.mem_cons.mp ha with z | z
  · rw [z]; exact List.mem_cons_self
  · exact List.mem_cons_of_mem _ (List.mem_append_right _ z)
end
end Dt
namespace Dt
open L2 PySem PySem.Spec PyProof.Rows
/-! ### while -/
def whileN (c : S → M (Bool × S)) (F : S → M Out) : Nat → S → M Out
  | 0, _ => none
  | n + 1, s => bd (c s) fun p => if p.1 = true then bd (F p.2) fun o => match o with
      | .nx s1 => whileN c F n s1
      | .ct s1 => whileN c F n s1
      | .bk s1 => ok (.nx s1)
      | o => ok o
    else ok (.nx p.2)
open Classical in
noncomputable def sWhile (c : S → M (Bool × S)) (F : S → M Out) : S → M Out := fun s => if h : ∃ n r, whileN c F n s = some r then some (choose (choose_spec h)) else none
theorem whileN_up {c : S → M (Bool × S)} {F : S → M Out} : ∀ {n : Nat} {s : S} {r : Rs Out}, whileN c F n s = some r → whileN c F (n + 1) s = some r
  | 0, _, _, h => by cases h
  | n + 1, s, r, h => by
    rw [whileN] at h ⊢
    match (c s : M (Bool × S)), h with
    | none, h => cases h
    | some (.ex _ _), h => exact h
    | some (.ok (b, s1)), h =>
      have h : (if b = true then bd (F s1) fun o => match o with
        | .nx s1 => whileN c F n s1
        | .ct s1 => whileN c F n s1
        | .bk s1 => ok (.nx s1)
        | o => ok o
      else ok (.nx s1)) = some r := h
      show (if b = true then bd (F s1) fun o => match o with
        | .nx s1 => whileN c F (n + 1) s1
        | .ct s1 => whileN c F (n + 1) s1
        | .bk s1 => ok (.nx s1)
        | o => ok o
      else ok (.nx s1)) = some r
      cases b with
      | false => exact h
      | true =>
        rw [if_pos rfl] at h ⊢
        match (F s1 : M Out), h with
        | none, h => cases h
        | some (.ex _ _), h => exact h
        | some (.ok (.nx s2)), h => exact whileN_up (n := n) h
        | some (.ok (.ct s2)), h => exact whileN_up (n := n) h
        | some (.ok (.bk s2)), h => exact h
        | some (.ok (.rt d s2)), h => exact h
        | some (.ok (.rf d s2)), h => exact h
theorem whileN_le {c : S → M (Bool × S)} {F : S → M Out} {n : Nat} {s : S} {r : Rs Out} (h : whileN c F n s = some r) (k : Nat) : whileN c F (n + k) s = some r := by
  induction k with
  | zero => exact h
  | succ k ih => exact whileN_up ih
theorem sWhile_of {c : S → M (Bool × S)} {F : S → M Out} {n : Nat} {s : S} {r : Rs Out} (h : whileN c F n s = some r) : sWhile c F s = some r := by
  have e : ∃ n r, whileN c F n s = some r := ⟨n, r, h⟩
  unfold sWhile
  rw [dif_pos e]
  have e2 := Classical.choose_spec (Classical.choose_spec e)
  generalize Classical.choose (Classical.choose_spec e) = o2 at e2
  have a := whileN_le h (Classical.choose e)
  have b := whileN_le e2 n
  rw [Nat.add_comm] at b
  exact b.symm.trans a
theorem of_sWhile {c : S → M (Bool × S)} {F : S → M Out} {s : S} {m : M Out} (h : sWhile c F s = m) : m = none ∨ ∃ n r, m = some r ∧ whileN c F n s = some r := by
  unfold sWhile at h
  split at h
  · next e => exact .inr ⟨_, _, h.symm, Classical.choose_spec (Classical.choose_spec e)⟩
  · exact .inl h.symm
/-! ### for -/
def forL (T : D → S → M S) (F : S → M Out) : List D → S → M Out
  | [], s => ok (.nx s)
  | d :: ds, s => bd (T d s) fun s1 => bd (F s1) fun o => match o with
    | .nx s2 => forL T F ds s2
    | .ct s2 => forL T F ds s2
    | .bk s2 => ok (.nx s2)
    | o => ok o
def sFor (fi : S → M (List D × S)) (T : D → S → M S) (F : S → M Out) : S → M Out := fun s => bd (fi s) fun p => forL T F p.1 p.2
section
variable {X : Cx} {K : PySem.W.Frag} {cl : Cl} {wx : WX} {pos : Pos} {body : List Stmt} {ts us : List Nat} {F : S → M Out} {c : S → M (Bool × S)} {fi : S → M (List D × S)} {T : D → S → M S} {ce tg it : Expr}
theorem s_while (hp : PassesOwn (model X.prog X.w) X.A X.env X.xe) (hc : PT X ce (TTof K cl wx c)) (hb : PSs X body (TSof K cl wx ts F)) : PS X (.While ce body [] pos) (TSof K cl wx ts (sWhile c F)) := by
  refine iS (ps_while hp hc hb) ?_
  rintro E σ0 H0 ⟨w, L0, sd, W, h⟩
  rcases of_sWhile (c := c) (F := F) (s := sd) rfl with e | ⟨n, rr, e, hn⟩
  · rw [e] at h; exact h.elim
  rw [e] at h
  refine ⟨fun m σ H => ∃ L s, Wl K cl w L s σ H ∧ Step w L0 H0 L H ∧ Agree ts σ0 σ ∧ whileN c F m s = some rr, ⟨n, L0, sd, W, .refl, .refl, hn⟩, ?_⟩
  rintro m σ H ⟨L, s, Ws, st, ag, hm⟩
  match m, hm with
  | 0, hm => cases hm
  | m + 1, hm =>
    rw [whileN] at hm
    refine ⟨w, L, s, Ws, ?_⟩
    match (c s : M (Bool × S)), hm with
    | none, hm => cases hm
    | some (.ex _ _), hm => cases hm; exact h
    | some (.ok (b, s1)), hm =>
      intro H1 st1 W1
      have st2 := st.trans st1
      cases b with
      | false =>
        refine iteF ?_
        have hm : ok (Out.nx s1) = some rr := hm
        cases hm
        exact h L σ H1 st2 W1 ag
      | true =>
        refine iteT ⟨fun σ' H' => ∃ L s, Wl K cl w L s σ' H' ∧ Step w L0 H0 L H' ∧ Agree ts σ0 σ' ∧ whileN c F m s = some rr, fun σ' H' q => ⟨m, Nat.lt_succ_self _, q⟩, w, L, s1, W1, ?_⟩
        have hm : (bd (F s1) fun o => match o with
          | .nx s1 => whileN c F m s1
          | .ct s1 => whileN c F m s1
          | .bk s1 => ok (.nx s1)
          | o => ok o) = some rr := hm
        have ag2 : ∀ {σ'}, Agree ts σ σ' → Agree ts σ0 σ' := fun q => (ag.trans q).le fun i hi => (List.mem_append.mp hi).elim id id
        match (F s1 : M Out), hm with
        | none, hm => cases hm
        | some (.ex _ _), hm => cases hm; exact h
        | some (.ok (.nx s2)), hm => exact fun L' σ' H' a b q => ⟨L', s2, b, st2.trans a, ag2 q, hm⟩
        | some (.ok (.ct s2)), hm => exact fun L' σ' H' a b q => ⟨L', s2, b, st2.trans a, ag2 q, hm⟩
        | some (.ok (.bk s2)), hm => cases hm; exact fun L' σ' H' a b q => h L' σ' H' (st2.trans a) b (ag2 q)
        | some (.ok (.rt d s2)), hm => cases hm; exact fun L' σ' H' v a b q => h L' σ' H' v (st2.trans a) b q
        | some (.ok (.rf d s2)), hm => cases hm; exact fun L' σ' H' v a b q r t => h L' σ' H' v (st2.trans a) b q r t
theorem s_for [nt : NoX T] (hp : PassesOwn (model X.prog X.w) X.A X.env X.xe) (hi : PI X tg it (TIof K cl wx fi)) (hg : PG X tg (TGof K cl wx us T)) (hb : PSs X body (TSof K cl wx ts F)) (hc : X.calm = true := by rfl) (hs : ∀ v, foldedSetIterable it X.env v = pure v := by intro _; rfl) : PS X (.For tg it body [] pos) (TSof K cl wx (us ++ ts) (sFor fi T F)) := by
  refine iS (ps_for hp hc hi hg hb hs) ?_
  rintro E σ0 H0 ⟨w, L0, sd, W, h⟩
  unfold sFor at h
  refine ⟨w, L0, sd, W, ?_⟩
  match (fi sd : M (List D × S)), h with
  | none, h => exact h.elim
  | some (.ex _ _), h => exact h
  | some (.ok (ds, s1)), h =>
    intro J H1 st1 W1 it
    have h : PostS K cl wx (us ++ ts) w L0 σ0 H0 E (forL T F ds s1) := h
    generalize e0 : forL T F ds s1 = m at h
    match m, h with
    | none, h => exact h.elim
    | some o, h =>
      refine ⟨fun i m σ H => m = ds.length - i ∧ i ≤ ds.length ∧ ∃ L s, Wl K cl w L s σ H ∧ Step w L0 H1 L H ∧ Agree (us ++ ts) σ0 σ ∧ forL T F (ds.drop i) s = some o, ⟨ds.length, by omega, Nat.zero_le _, L0, s1, W1, .refl, .refl, e0⟩, ?_⟩
      rintro i m σ H ⟨rfl, hi, L, s, Ws, st, ag, hm⟩
      have shi : Same (hide (L0 ++ w.O0) H1) (hide (L ++ w.O0) H) := st.seen W.sub
      by_cases hlt : i < ds.length
      · refine .inr ⟨it.go i _ H shi hlt, fun σ' H' => ∃ L s, Wl K cl w L s σ' H' ∧ Step w L0 H1 L H' ∧ Agree (us ++ ts) σ0 σ' ∧ forL T F (ds.drop (i + 1)) s = some o, fun σ' H' q => ⟨ds.length - (i + 1), by omega, rfl, hlt, q⟩, fun x H2 hy => ?_⟩
        obtain ⟨sm, hx⟩ := it.yld i _ H x H2 shi Ws.alive hy
        have hx := hx ds[i] (List.getElem?_eq_getElem hlt)
        rw [List.drop_eq_getElem_cons hlt] at hm
        have W2 := Ws.ext sm
        have st2 := st.trans (.of_same sm)
        refine ⟨w, L, s, ds[i], W2, hx, ?_⟩
        have hm : (bd (T ds[i] s) fun s1 => bd (F s1) fun o => match o with
          | .nx s2 => forL T F (ds.drop (i + 1)) s2
          | .ct s2 => forL T F (ds.drop (i + 1)) s2
          | .bk s2 => ok (.nx s2)
          | o => ok o) = some o := hm
        generalize eT : T ds[i] s = mT at hm
        match mT, hm with
        | none, hm => cases hm
        | some (.ex _ _), hm => exact (nt.no _ _ _ _ eT).elim
        | some (.ok s3), hm =>
          intro σ3 H3 st3 W3 ag3
          refine ⟨w, L, s3, W3, ?_⟩
          have st3 := st2.trans st3
          have ag4 : ∀ {σ'}, Agree ts σ3 σ' → Agree (us ++ ts) σ0 σ' := fun q => (ag.trans (ag3.trans q)).le fun i hi => (List.mem_append.mp hi).elim id id
          have hm : (bd (F s3) fun o => match o with
            | .nx s2 => forL T F (ds.drop (i + 1)) s2
            | .ct s2 => forL T F (ds.drop (i + 1)) s2
            | .bk s2 => ok (.nx s2)
            | o => ok o) = some o := hm
          match (F s3 : M Out), hm with
          | none, hm => cases hm
          | some (.ex _ _), hm => cases hm; exact h
          | some (.ok (.nx s4)), hm => exact fun L' σ' H' a b q => ⟨L', s4, b, st3.trans a, ag4 q, hm⟩
          | some (.ok (.ct s4)), hm => exact fun L' σ' H' a b q => ⟨L', s4, b, st3.trans a, ag4 q, hm⟩
          | some (.ok (.bk s4)), hm => cases hm; exact fun L' σ' H' a b q => h L' σ' H' ((st1.trans st3).trans a) b (ag4 q)
          | some (.ok (.rt d s4)), hm => cases hm; exact fun L' σ' H' v a b q => h L' σ' H' v ((st1.trans st3).trans a) b q
          | some (.ok (.rf d s4)), hm => cases hm; exact fun L' σ' H' v a b q r t => h L' σ' H' v ((st1.trans st3).trans a) b q r t
      · have ei : i = ds.length := by omega
        subst ei
        rw [List.drop_length] at hm
        cases hm
        exact .inl ⟨it.stop _ _ H shi (Nat.le_refl _), h L σ H (st1.trans st) Ws ag⟩
end
end Dt
namespace Dt
open L2 PySem PySem.Spec PyProof.Rows
/-! ### lists of the def's own: stored, read, changed -/
/-- the content of an own slot -/
def ownL : Option Sl → Option (List D)
  | some (.own (.lst ds)) => some ds
  | some (.io (.lst ds)) => some ds
  | _ => none
/-- .. changed -/
def putL (s : S) (i : Nat) (ds : List D) : S := match s[i]? with
  | some (.io _) => s.set i (.io (.lst ds))
  | _ => s.set i (.own (.lst ds))
def sApp (i : Nat) (f : S → M (D × S)) : S → M Out := fun s => match ownL s[i]? with
  | some _ => bd (f s) fun p => match ownL p.2[i]? with
    | some ds => if ds.length < sizeLine then ok (.nx (putL p.2 i (ds ++ [p.1]))) else none
    | none => none
  | none => none
def sPut (i : Nat) (fk f : S → M (D × S)) : S → M Out := fun s => bd (f s) fun p => match ownL p.2[i]? with
  | some _ => bd (fk p.2) fun q => match ownL q.2[i]?, q.1 with
    | some ds, .int k => match ixN ds.length k with
      | some j => ok (.nx (putL q.2 i (ds.set j p.1)))
      | none => none
    | _, _ => none
  | none => none
def dOwnIx (i : Nat) (fk : S → M (D × S)) : S → M (D × S) := fun s => match ownL s[i]? with
  | some _ => bd (fk s) fun q => match ownL q.2[i]?, q.1 with
    | some ds, .int k => match atI ds k with
      | some d => ok (d, q.2)
      | none => none
    | _, _ => none
  | none => none
def viewS (s : S) : S := s.map fun x => match x with
  | .own d => .val d
  | .io d => .val d
  | .tre _ d => .val (bare d)
  | x => x
def dView (f : S → M (D × S)) : S → M (D × S) := fun s => bd (nx (f (viewS s))) fun p => if p.1.scal = true then ok (p.1, s) else none
def tView (f : S → M (Bool × S)) : S → M (Bool × S) := fun s => bd (nx (f (viewS s))) fun p => ok (p.1, s)
/-- an own list becomes a value -/
def pubS (i : Nat) (s : S) : S := match s[i]? with
  | some (.own d) => s.set i (.val d)
  | _ => s
def sPub (i : Nat) (F : S → M Out) : S → M Out := fun s => F (pubS i s)
section
variable {X : Cx} {K : PySem.W.Frag} {cl : Cl} {wx : WX} {pos : Pos} {w : Wf} {L : List Addr} {sd : S} {σ : L2.St} {H : Hp} {f fk : S → M (D × S)} {F : S → M Out} {e ke : Expr} {ts : List Nat}
/-- where an own slot's list stands -/
theorem Wl.at (W : Wl K cl w L sd σ H) {i : Nat} {ds : List D} (h : ownL sd[i]? = some ds) : ∃ a xs, σ[i]? = some (some (.ref a)) ∧ (a ∈ L ∨ (a = w.a0 ∧ a ∈ w.I)) ∧ H a = some (.lst xs) ∧ RpA K cl (hide (L ++ w.O0) H) xs ds := by
  match q : sd[i]?, h with
  | some (.own (.lst es)), h =>
    cases h
    obtain ⟨a, h1, h2, xs, h3, h4⟩ := W.st.own i _ q
    exact ⟨a, xs, h1, .inl h2, h3, h4⟩
  | some (.io (.lst es)), h =>
    cases h
    obtain ⟨h1, h2, xs, h3, h4⟩ := W.st.io i _ q
    exact ⟨w.a0, xs, h1, .inr ⟨rfl, h2⟩, h3, h4⟩
theorem hide_in {O : List Addr} {H : Hp} {a : Addr} {o : HO} (h : a ∈ O) : hide O (upd H a o) = hide O H := by
  funext b
  unfold hide
  by_cases z : b ∈ O
  · rw [if_pos z, if_pos z]
  · rw [if_neg z, if_neg z, upd_ne]
    rintro rfl
    exact z h
/-- the data of an own slot -/
def ownD : Option Sl → Option D
  | some (.own d) => some d
  | some (.io d) => some d
  | _ => none
def putD (s : S) (i : Nat) (d : D) : S := match s[i]? with
  | some (.io _) => s.set i (.io d)
  | _ => s.set i (.own d)
theorem putD_len (s : S) (i : Nat) (d : D) : (putD s i d).length = s.length := by
  unfold putD
  split <;> rw [List.length_set]
theorem putD_ne (s : S) (i j : Nat) (d : D) (h : j ≠ i) : (putD s i d)[j]? = s[j]? := by
  unfold putD
  split <;> rw [List.getElem?_set_ne (Ne.symm h)]
theorem Wl.atD (W : Wl K cl w L sd σ H) {i : Nat} {d : D} (h : ownD sd[i]? = some d) : ∃ a, σ[i]? = some (some (.ref a)) ∧ (a ∈ L ∨ (a = w.a0 ∧ a ∈ w.I)) ∧ OwnAt K cl w.H0 (L ++ w.O0) H a d := by
  match q : sd[i]?, h with
  | some (.own es), h =>
    cases h
    obtain ⟨a, h1, h2, h3⟩ := W.st.own i _ q
    exact ⟨a, h1, .inl h2, h3⟩
  | some (.io es), h =>
    cases h
    obtain ⟨h1, h2, h3⟩ := W.st.io i _ q
    exact ⟨w.a0, h1, .inr ⟨rfl, h2⟩, h3⟩
/-- what an own slot holds is changed, all else stays -/
theorem Wl.wrote (W : Wl K cl w L sd σ H) {H' : Hp} {i : Nat} {d0 d1 : D} {a : Addr} (h : ownD sd[i]? = some d0) (hσ : σ[i]? = some (some (.ref a))) (ha : a ∈ L ∨ (a = w.a0 ∧ a ∈ w.I)) (hl : H a ≠ none)
    (kp : ∀ b o, b ≠ a → H b = some o → H' b = some o) (hnew : OwnAt K cl w.H0 (L ++ w.O0) H' a d1) : Wl K cl w L (putD sd i d1) σ H' ∧ Step w L H L H' := by
  have hin : a ∈ L ++ w.O0 := by
    rcases ha with z | z
    · (exact List.mem_append_left _ z)
    · exact List.mem_append_right _ (W.sub a z.2)
  have hh : Same (hide (L ++ w.O0) H) (hide (L ++ w.O0) H') := fun b o e => by
    obtain ⟨n, e⟩ := hide_some.mp e
    exact hide_some.mpr ⟨n, kp b o (fun z => n (z ▸ hin)) e⟩
  have own : ∀ {b d}, b ≠ a → OwnAt K cl w.H0 (L ++ w.O0) H b d → OwnAt K cl w.H0 (L ++ w.O0) H' b d := fun {b d} n q => by
    refine q.move ?_ hh
    cases z : H b with
    | none => exact absurd z q.some
    | some o => exact kp b o n z
  have hk : (∃ d, sd[i]? = some (.own d)) ∨ ∃ d, sd[i]? = some (.io d) := by
    match q : sd[i]?, h with
    | some (.own es), h => exact .inl ⟨_, rfl⟩
    | some (.io es), h => exact .inr ⟨_, rfl⟩
  have hlen : i < sd.length := by
    rcases hk with ⟨d, e⟩ | ⟨d, e⟩ <;> exact (List.getElem?_eq_some_iff.mp e).1
  have ne_own : ∀ {j : Nat} {d : D} {b : Addr}, j ≠ i → sd[j]? = some (.own d) → σ[j]? = some (some (.ref b)) → b ≠ a := fun {j d b} hj e1 e2 e3 => by
    subst e3
    rcases hk with ⟨d', e⟩ | ⟨d', e⟩
    · exact hj (W.st.inj j i d d' b e1 e e2 hσ)
    · obtain ⟨q1, q2, _⟩ := W.st.io i d' e
      rw [hσ] at q1
      cases q1
      obtain ⟨c, p1, p2, _⟩ := W.st.own j d e1
      rw [e2] at p1
      cases p1
      exact W.disj _ p2 (W.sub _ q2)
  have ne_io : ∀ {j : Nat} {d : D}, j ≠ i → sd[j]? = some (.io d) → w.a0 ≠ a := fun {j d} hj e1 e3 => by
    rcases hk with ⟨d', e⟩ | ⟨d', e⟩
    · obtain ⟨c, p1, p2, _⟩ := W.st.own i d' e
      rw [hσ] at p1
      cases p1
      obtain ⟨_, q2, _⟩ := W.st.io j d e1
      rw [← e3] at p2
      exact W.disj _ p2 (W.sub _ q2)
    · exact hj (W.st.ioj j i d d' e1 e)
  have alv : ∀ b, H b ≠ none → H' b ≠ none := fun b e => by
    by_cases z : b = a
    · rw [z]; exact hnew.some
    · cases q : H b with
      | none => exact absurd q e
      | some o => rw [kp b o z q]; simp
  -- a slot of the new state
  have put : ∀ {j : Nat} {x : Sl}, (putD sd i d1)[j]? = some x → (j ≠ i ∧ sd[j]? = some x) ∨ (j = i ∧ ((x = .own d1 ∧ ∃ d', sd[i]? = some (.own d')) ∨ (x = .io d1 ∧ ∃ d', sd[i]? = some (.io d')))) := fun {j x} e => by
    by_cases hj : j = i
    · subst hj
      refine .inr ⟨rfl, ?_⟩
      unfold putD at e
      rcases hk with ⟨d', q⟩ | ⟨d', q⟩
      · rw [q] at e
        dsimp only at e
        rw [List.getElem?_set_self hlen] at e
        cases e
        exact .inl ⟨rfl, d', q⟩
      · rw [q] at e
        dsimp only at e
        rw [List.getElem?_set_self hlen] at e
        cases e
        exact .inr ⟨rfl, d', q⟩
    · rw [putD_ne _ _ _ _ hj] at e
      exact .inl ⟨hj, e⟩
  have pown : ∀ {j : Nat} {d : D}, (putD sd i d1)[j]? = some (.own d) → ∃ d2, sd[j]? = some (.own d2) := fun {j d} e => by
    rcases put e with ⟨_, q⟩ | ⟨rfl, ⟨_, q⟩ | ⟨q, _⟩⟩
    · exact ⟨d, q⟩
    · exact q
    · cases q
  have pio : ∀ {j : Nat} {d : D}, (putD sd i d1)[j]? = some (.io d) → ∃ d2, sd[j]? = some (.io d2) := fun {j d} e => by
    rcases put e with ⟨_, q⟩ | ⟨rfl, ⟨q, _⟩ | ⟨_, q⟩⟩
    · exact ⟨d, q⟩
    · cases q
    · exact q
  refine ⟨⟨fun b o n e => ?_, W.fresh, fun b hb => alv b (W.alive b hb), W.disj, W.sub, ⟨fun j d e => ?_, fun j d e => ?_, fun j d e => ?_, fun j k d d' b h1 h2 h3 h4 => ?_, fun j k d d' h1 h2 => ?_, by rw [putD_len]; exact W.st.len, ?_⟩⟩, ⟨fun b o n1 n2 e => ?_, alv, fun b hb => .inl hb⟩⟩
  · by_cases z : b = a
    · subst z
      rcases ha with y | y
      · rw [W.fresh b y] at e; cases e
      · exact absurd y.2 n
    · exact kp b o z (W.keep b o n e)
  · rcases put e with ⟨hj, q⟩ | ⟨_, ⟨q, _⟩ | ⟨q, _⟩⟩
    · obtain ⟨v, q1, q2⟩ := W.st.val j d q
      exact ⟨v, q1, q2.mono hh⟩
    · cases q
    · cases q
  · rcases put e with ⟨hj, q⟩ | ⟨rfl, ⟨q, d', q'⟩ | ⟨q, _⟩⟩
    · obtain ⟨c, p1, p2, p3⟩ := W.st.own j d q
      exact ⟨c, p1, p2, own (ne_own hj q p1) p3⟩
    · cases q
      obtain ⟨c, p1, p2, _⟩ := W.st.own j d' q'
      rw [hσ] at p1
      cases p1
      exact ⟨a, hσ, p2, hnew⟩
    · cases q
  · rcases put e with ⟨hj, q⟩ | ⟨rfl, ⟨q, _⟩ | ⟨q, d', q'⟩⟩
    · obtain ⟨p1, p2, p3⟩ := W.st.io j d q
      exact ⟨p1, p2, own (ne_io hj q) p3⟩
    · cases q
    · cases q
      obtain ⟨p1, p2, _⟩ := W.st.io j d' q'
      rw [hσ] at p1
      cases p1
      exact ⟨hσ, p2, hnew⟩
  · obtain ⟨_, g1⟩ := pown h1
    obtain ⟨_, g2⟩ := pown h2
    exact W.st.inj j k _ _ b g1 g2 h3 h4
  · obtain ⟨_, g1⟩ := pio h1
    obtain ⟨_, g2⟩ := pio h2
    exact W.st.ioj j k _ _ g1 g2
  · refine W.st.tr.move hh (fun j b d e => ?_) (fun j d c h1 h2 => ?_) (fun j d e => ?_) fun x hx n1 n2 => ?_
    · rcases put e with ⟨_, q⟩ | ⟨_, ⟨q, _⟩ | ⟨q, _⟩⟩
      · exact ⟨q, rfl, fun _ => rfl⟩
      · cases q
      · cases q
    · obtain ⟨d2, g1⟩ := pown h1
      exact .inl ⟨j, d2, g1, h2⟩
    · obtain ⟨d2, g1⟩ := pio e
      exact ⟨rfl, j, d2, g1⟩
    · have ne : x ≠ a := by
        rintro rfl
        rcases hk with ⟨d', q⟩ | ⟨d', q⟩
        · exact n1 i d' q hσ
        · have q1 := (W.st.io i d' q).1
          rw [hσ] at q1
          cases q1
          exact n2 i d' q rfl
      refine ⟨?_, hx⟩
      cases q : H x with
      | none => exact absurd q (W.alive x (hx.elim (List.mem_append_left _) fun z => List.mem_append_right _ (W.sub x z)))
      | some o => exact kp x o ne q
  · refine kp b o ?_ e
    rintro rfl
    rcases ha with y | y
    · exact n1 y
    · exact n2 y.2
theorem putL_D (s : S) (i : Nat) (ds : List D) : putL s i ds = putD s i (.lst ds) := rfl
theorem ownL_D {o : Option Sl} {ds : List D} (h : ownL o = some ds) : ownD o = some (.lst ds) := by
  match o, h with
  | some (.own (.lst es)), h => cases h; rfl
  | some (.io (.lst es)), h => cases h; rfl
/-- an own list is changed -/
theorem Wl.write (W : Wl K cl w L sd σ H) {i : Nat} {ds es : List D} {a : Addr} {ys : List V} (h : ownL sd[i]? = some ds) (hσ : σ[i]? = some (some (.ref a))) (ha : a ∈ L ∨ (a = w.a0 ∧ a ∈ w.I)) (hl : H a ≠ none)
    (r : RpA K cl (hide (L ++ w.O0) H) ys es) : Wl K cl w L (putL sd i es) σ (upd H a (.lst ys)) ∧ Step w L H L (upd H a (.lst ys)) := by
  have hin : a ∈ L ++ w.O0 := by
    rcases ha with z | z
    · (exact List.mem_append_left _ z)
    · exact List.mem_append_right _ (W.sub a z.2)
  rw [putL_D]
  exact W.wrote (ownL_D h) hσ ha hl (fun b o n e => by rw [upd_ne n]; exact e) ⟨ys, upd_same, by rw [hide_in hin]; exact r⟩
/-- xs.append(e) -/
theorem s_app (i : Nat) {x : Str} {p0 apos cpos : Pos} (he : PE X e (TEof X.K cl wx f)) (hN : X.N[i]? = some x := by rfl) (hv : Vis X.env.scope x := by first | exact Or.inl rfl | exact Or.inr (Or.inl rfl) | exact Or.inr (Or.inr rfl))
    (hd : (x == ("__debug__"
          : Str)) = false := by decide) (hcd : (x == ("__classdict__" : Str)) = false := by decide)
    (hbase : attributeBase (.Name x p0) "append" X.env (eval (.Name x p0) X.env) = eval (.Name x p0) X.env := by rfl)
    (hfew :
          ((backTo cpos (starEach [e] X.env)).all (fun x => !x.1) && (backToKw cpos (keywordEach [] X.env)).all (fun x => x.1.isSome)
      && decide (([e]
            : List Expr).length + ([] : List Keyword).length + (if ([] : List Keyword).isEmpty then 0 else 1) < 30)) = true := by rfl)
    (hline : (apos.endLine == cpos.line) = true := by rfl) (hs : starEach [e] X.env = (false, eval e X.env) :: starEach [] X.env := by rfl) (hplain : (backTo cpos (starEach [] X.env)).any (·.1) = false := by rfl)
    (hsw : swapsWith (.Call (.Attribute (.Name x p0) "append" apos) [e] [] cpos) none pos.line X.env = pure false := by rfl) :
    PS X (.Expr (.Call (.Attribute (.Name x p0) "append" apos) [e] [] cpos) pos) (TSof X.K cl wx [] (sApp i f)) := by
  refine iS (ps_expr (pe_bm PySem.F.plainAttrs_list PySem.F.slot_list_append PySem.F.type_list_append mt_append (pe_var hN hv hd hcd) (pa_cons he pa_nil hs) hbase hfew hline hs hplain) hsw) ?_
  rintro E σ H ⟨w, L, sd, W, h⟩
  unfold sApp at h
  split at h
  · next ds0 e0 =>
    obtain ⟨a, xs, h1, h2, h3, h4⟩ := W.at e0
    refine ⟨.ref a, h1, .inl ⟨rfl, xs, SqL.of h3⟩, w, L, sd, W, PostE.bd botS h fun r s1 h v H1 st1 W1 rr => ?_⟩
    dsimp only at h
    split at h
    · next ds e1 =>
      obtain ⟨a', xs', q1, q2, q3, q4⟩ := W1.at e1
      rw [h1] at q1
      cases q1
      split at h
      · next c =>
        obtain ⟨W2, st2⟩ := W1.write (es := ds ++ [r]) (ys := xs' ++ [v]) e1 h1 q2 (by rw [q3]; simp) (q4.append (.cons rr .nil))
        exact ⟨a, xs', v, rfl, rfl, q3, by rw [q4.len]; exact c, h L σ _ (st1.trans st2) W2 .refl⟩
      · exact h.elim
    · exact h.elim
  · exact h.elim
/-- xs[k] = e -/
theorem s_put (i : Nat) {x : Str} {p0 spos : Pos} (he : PE X e (TEof K cl wx f)) (hk : PE X ke (TEof K cl wx fk)) (hN : X.N[i]? = some x := by rfl) (hv : Vis X.env.scope x := by first | exact Or.inl rfl | exact Or.inr (Or.inl rfl) | exact Or.inr (Or.inr rfl))
    (hd : (x == ("__debug__"
          : Str)) = false := by decide) (hcd : (x == ("__classdict__" : Str)) = false := by decide)
    (ha : ∀ v, assign (.Subscript (.Name x p0) ke spos) X.env v = (do
      let ov ← holding [v] (eval (.Name x p0) X.env)
      let iv ← holding [v, ov] (eval ke X.env)
      standAt spos
      (holding [v, ov, iv] (setItem ov iv v))
      release [v, ov, iv] []) := by intro _; rfl)
    (hs : swapsWithSole [.Subscript (.Name x p0) ke spos] e pos.line X.env = pure false := by rfl) (hw : swappedStores [.Subscript (.Name x p0) ke spos] e X.env = pure none := by rfl)
    (h1 : (assignEach [.Subscript (.Name x p0) ke spos] X.env).map (·.2) = [assign (.Subscript (.Name x p0) ke spos) X.env] := by rfl) :
    PS X (.Assign [.Subscript (.Name x p0) ke spos] e pos) (TSof K cl wx [] (sPut i fk f)) := by
  refine iS (ps_asg he (pg_sub (pe_var hN hv hd hcd) hk set_list ha) hs hw h1) ?_
  rintro E σ H ⟨w, L, sd, W, h⟩
  refine ⟨w, L, sd, W, PostE.bd botS h fun r s1 h v H1 st1 W1 rr => ?_⟩
  dsimp only at h
  split at h
  · next ds0 e0 =>
    obtain ⟨a, xs, q1, q2, q3, q4⟩ := W1.at e0
    refine ⟨.ref a, q1, w, L, s1, W1, PostE.bd botS h fun k s2 h u H2 st2 W2 rk => ?_⟩
    dsimp only at h
    split at h
    · next ds k' e1 =>
      cases rk
      obtain ⟨a', xs', p1, p2, p3, p4⟩ := W2.at e1
      rw [q1] at p1
      cases p1
      split at h
      · next j e2 =>
        obtain ⟨W3, st3⟩ := W2.write (es := ds.set j r) (ys := xs'.set j v) e1 q1 p2 (by rw [p3]; simp) (p4.set j (rr.mono (st2.sn W2)))
        exact ⟨a, xs', k', j, rfl, rfl, p3, by rw [p4.len]; exact e2, h L σ _ ((st1.trans st2).trans st3) W3 .refl⟩
      · exact h.elim
    · exact h.elim
  · exact h.elim
/-- xs[k] of an own list -/
theorem d_ownIx (i : Nat) {x : Str} {p0 spos : Pos} (hk : PE X ke (TEof X.K cl wx fk)) (hp : PlainIx ke := by exact fun _ _ => rfl) (hN : X.N[i]? = some x := by rfl) (hv : Vis X.env.scope x := by first | exact Or.inl rfl | exact Or.inr (Or.inl rfl) | exact Or.inr (Or.inr rfl))
    (hd : (x == ("__debug__" : Str)) = false := by decide) (hcd : (x == ("__classdict__" : Str)) = false := by decide) : PE X (.Subscript (.Name x p0) ke spos) (TEof X.K cl wx (dOwnIx i fk)) := by
  refine iE (pe_ix ix_list (pe_var hN hv hd hcd) hk hp) ?_
  rintro σ H Q ⟨w, L, sd, W, h⟩
  unfold dOwnIx at h
  split at h
  · next ds0 e0 =>
    obtain ⟨a, xs, q1, q2, q3, q4⟩ := W.at e0
    refine ⟨.ref a, q1, w, L, sd, W, PostE.bd botE h fun k s2 h u H2 st2 W2 rk => ?_⟩
    dsimp only at h
    split at h
    · next ds k' e1 =>
      cases rk
      obtain ⟨a', xs', p1, p2, p3, p4⟩ := W2.at e1
      rw [q1] at p1
      cases p1
      split at h
      · next d e2 =>
        unfold atI at e2
        rw [← p4.len] at e2
        cases e3 : ixN xs'.length k' with
        | none => rw [e3] at e2; cases e2
        | some j =>
          rw [e3] at e2
          obtain ⟨v, g1, g2⟩ := p4.get j e2
          refine ⟨a, xs', k', v, rfl, rfl, SqL.of p3, ?_, h v H2 st2 W2 g2⟩
          unfold atI
          rw [e3]
          exact g1
      · exact h.elim
    · exact h.elim
  · exact h.elim
/-! ### all lists seen for a moment -/
theorem viewS_get (s : S) (i : Nat) : (viewS s)[i]? = (s[i]?).map fun x => match x with
  | .own d => .val d
  | .io d => .val d
  | .tre _ d => .val (bare d)
  | x => x := by unfold viewS; rw [List.getElem?_map]
theorem Wl.view (W : Wl K cl w L sd σ H) : Wl K cl ⟨w.O0.filter fun a => a ∉ w.I, [], w.a0, H⟩ [] (viewS sd) σ H := by
  have nO : ∀ {a}, a ∈ ([] : List Addr) ++ (w.O0.filter fun a => a ∉ w.I) → a ∈ w.O0 ∧ a ∉ w.I := fun {a} h => by simpa using h
  have sm : Same (hide (L ++ w.O0) H) (hide (([] : List Addr) ++ (w.O0.filter fun a => a ∉ w.I)) H) := hide_sub fun a h => List.mem_append_right _ (nO h).1
  refine ⟨fun _ _ _ e => e, fun a h => by simp at h, fun a h => W.alive a (List.mem_append_right _ (nO h).1), fun a h => by simp at h, fun a h => by simp at h, ⟨fun i d e => ?_, fun i d e => ?_, fun i d e => ?_, fun i j d d' a e => ?_, fun i j d d' e => ?_, by unfold viewS; rw [List.length_map]; exact W.st.len, .none fun i b d e => by
    rw [viewS_get] at e
    match q : sd[i]?, e with
    | some (.val d'), e => cases e
    | some (.own d'), e => cases e
    | some (.io d'), e => cases e
    | some (.tre b d'), e => cases e
    | some .un, e => cases e⟩⟩
  · rw [viewS_get] at e
    match q : sd[i]?, e with
    | some (.val d'), e =>
      cases e
      obtain ⟨v, h1, h2⟩ := W.st.val i _ q
      exact ⟨v, h1, h2.mono sm⟩
    | some (.own d'), e =>
      cases e
      obtain ⟨a, h1, h2, h3⟩ := W.st.own i _ q
      exact ⟨.ref a, h1, h3.rp (fun z => W.disj a h2 (nO z).1) sm⟩
    | some (.io d'), e =>
      cases e
      obtain ⟨h1, h2, h3⟩ := W.st.io i _ q
      exact ⟨_, h1, h3.rp (fun z => (nO z).2 h2) sm⟩
    | some (.tre b d'), e =>
      cases e
      obtain ⟨F, t1, _⟩ := W.st.tr.ex
      obtain ⟨a, h1, _, h3, _, h5, _⟩ := t1 i b d' q
      exact ⟨_, h1, h3.rp sm fun x hx z => (h5 x hx).elim (fun y => W.disj x y (nO z).1) (nO z).2⟩
  · rw [viewS_get] at e
    match q : sd[i]?, e with
    | some (.val d'), e => cases e
    | some (.own d'), e => cases e
    | some (.io d'), e => cases e
    | some (.tre b d'), e => cases e
    | some .un, e => cases e
  · rw [viewS_get] at e
    match q : sd[i]?, e with
    | some (.val d'), e => cases e
    | some (.own d'), e => cases e
    | some (.io d'), e => cases e
    | some (.tre b d'), e => cases e
    | some .un, e => cases e
  · rw [viewS_get] at e
    match q : sd[i]?, e with
    | some (.val d'), e => cases e
    | some (.own d'), e => cases e
    | some (.io d'), e => cases e
    | some (.tre b d'), e => cases e
    | some .un, e => cases e
  · rw [viewS_get] at e
    match q : sd[i]?, e with
    | some (.val d'), e => cases e
    | some (.own d'), e => cases e
    | some (.io d'), e => cases e
    | some (.tre b d'), e => cases e
    | some .un, e => cases e
/-! ### an own list is seen from now on -/
theorem pub_read {i0 : Nat} {E : Ends} (h : TSof K cl wx ts (sPub i0 F) E σ H) : TSof K cl wx ts F E σ H := by
  obtain ⟨w, L, sd, W, h⟩ := h
  unfold sPub pubS at h
  split at h
  · next d e =>
    obtain ⟨a, h1, h2, h3⟩ := W.st.own i0 d e
    have mem : ∀ {b}, b ∈ L.filter (fun x => x ≠ a) ↔ b ∈ L ∧ b ≠ a := by intro b; simp
    have sm : Same (hide (L ++ w.O0) H) (hide (L.filter (fun x => x ≠ a) ++ w.O0) H) := hide_sub fun b hb => by
      rcases List.mem_append.mp hb with z | z
      · exact List.mem_append_left _ (mem.mp z).1
      · exact List.mem_append_right _ z
    have hlen : i0 < sd.length := (List.getElem?_eq_some_iff.mp e).1
    have na : a ∉ L.filter (fun x => x ≠ a) ++ w.O0 := fun z => by
      rcases List.mem_append.mp z with z | z
      · exact (mem.mp z).2 rfl
      · exact W.disj a h2 z
    have get : ∀ {j : Nat} {x : Sl}, j ≠ i0 → (sd.set i0 (.val d))[j]? = some x → sd[j]? = some x := fun h e => by rwa [List.getElem?_set_ne (Ne.symm h)] at e
    have self : ∀ {x : Sl}, (sd.set i0 (.val d))[i0]? = some x → x = .val d := fun {x} q => by
      rw [List.getElem?_set_self hlen] at q; cases q; rfl
    refine ⟨w, L.filter (fun x => x ≠ a), sd.set i0 (.val d), ⟨W.keep, fun b hb => W.fresh b (mem.mp hb).1, fun b hb => W.alive b ?_, fun b hb => W.disj b (mem.mp hb).1, W.sub, ⟨fun j d' q => ?_, fun j d' q => ?_, fun j d' q => ?_, fun j k d1 d2 b q1 q2 => ?_, fun j k d1 d2 q1 q2 => ?_, by simpa using W.st.len, W.st.tr.move sm (fun j b d' q => ?_) (fun j d' b q1 q2 => ?_) (fun j d' q => ?_) fun x hx n1 n2 => ⟨rfl, hx.imp (fun z => mem.mpr ⟨z, fun y => n1 i0 d e (y ▸ h1)⟩) id⟩⟩⟩, ?_⟩
    · rcases List.mem_append.mp hb with z | z
      · exact List.mem_append_left _ (mem.mp z).1
      · exact List.mem_append_right _ z
    · by_cases hj : j = i0
      · subst hj
        cases self q
        exact ⟨_, h1, h3.rp na sm⟩
      · obtain ⟨v, p1, p2⟩ := W.st.val j d' (get hj q)
        exact ⟨v, p1, p2.mono sm⟩
    · by_cases hj : j = i0
      · subst hj; cases self q
      · obtain ⟨b, p1, p2, p3⟩ := W.st.own j d' (get hj q)
        refine ⟨b, p1, mem.mpr ⟨p2, ?_⟩, p3.move rfl sm⟩
        rintro rfl
        exact hj (W.st.inj j i0 d' d b (get hj q) e p1 h1)
    · by_cases hj : j = i0
      · subst hj; cases self q
      · obtain ⟨p1, p2, p3⟩ := W.st.io j d' (get hj q)
        exact ⟨p1, p2, p3.move rfl sm⟩
    · by_cases hj : j = i0
      · subst hj; cases self q1
      · by_cases hk : k = i0
        · subst hk; cases self q2
        · exact W.st.inj j k d1 d2 b (get hj q1) (get hk q2)
    · by_cases hj : j = i0
      · subst hj; cases self q1
      · by_cases hk : k = i0
        · subst hk; cases self q2
        · exact W.st.ioj j k d1 d2 (get hj q1) (get hk q2)
    · by_cases hj : j = i0
      · subst hj; cases self q
      · exact ⟨get hj q, rfl, fun _ => rfl⟩
    · by_cases hj : j = i0
      · subst hj; cases self q1
      · exact .inl ⟨j, d', get hj q1, q2⟩
    · by_cases hj : j = i0
      · subst hj; cases self q
      · exact ⟨rfl, j, d', get hj q⟩
    · have st : ∀ {L' H'}, Step w (L.filter fun x => x ≠ a) H L' H' → Step w L H L' H' := fun s => ⟨fun b o n1 n2 e => s.keep b o (fun z => n1 (mem.mp z).1) n2 e, s.alv, fun b hb => (s.new b hb).imp (fun z => (mem.mp z).1) id⟩
      match (F (sd.set i0 (.val d)) : M Out), h with
      | none, h => exact h.elim
      | some (.ex _ _), h => exact h
      | some (.ok (.nx s)), h => exact fun L' σ' H' a b c => h L' σ' H' (st a) b c
      | some (.ok (.bk s)), h => exact fun L' σ' H' a b c => h L' σ' H' (st a) b c
      | some (.ok (.ct s)), h => exact fun L' σ' H' a b c => h L' σ' H' (st a) b c
      | some (.ok (.rt d s)), h => exact fun L' σ' H' v a b c => h L' σ' H' v (st a) b c
      | some (.ok (.rf d s)), h => exact fun L' σ' H' v a b c d e => h L' σ' H' v (st a) b c d e
  · exact ⟨w, L, sd, W, h⟩
theorem s_pub (i : Nat) {sts : List Stmt} (h : PSs X sts (TSof K cl wx ts F)) : PSs X sts (TSof K cl wx ts (sPub i F)) := iSs h fun E σ H q => pub_read q
end
end Dt
namespace Dt
open L2 PySem PySem.Spec PyProof.Rows
/-! ### defs, called where nothing is being shown (guards) -/
structure FnG (P : Program) (w : World) (K : PySem.W.Frag) (mg : Str → Option Value) (base : Heap) (CX : CXT) (k : Nat) (f : Addr) (fd : FuncData) (ps : List Str) (sp : Sp) : Prop where
  len : ∀ vs H Q E, sp vs H Q E
        → vs.length = ps.length
  go : ∀ (A : Around) (outer : List Env) (s : Shared) (H : Hp) (args : Args) (us : List Value) (vs : List V) (Q : VK) (E : XK), A.guards = some [] → Room k A →
    Env0 P w K mg base A outer s H → BindsTo s fd args (ps.zip us) → Vals vs us → sp vs H Q E → codeAny (model P w) A (.call (.ref f) args) (CR CX outer P w H s Q E) s
section
variable {P : Program} {w : World} {K : PySem.W.Frag} {mg : Str → Option Value} {base : Heap} {CX : CXT} {k j : Nat} {f : Addr} {fd : FuncData} {ps : List Str} {sp sp' : Sp}
theorem FnG.mono (F : FnG P w K mg base CX j f fd ps sp) (h : j ≤ k) : FnG P w K mg base CX k f fd ps sp :=
  ⟨F.len, fun A outer s H args us vs Q E hg hr => F.go A outer s H args us vs Q E hg (hr.mono h)⟩
theorem FnG.imp (F : FnG P w K mg base CX k f fd ps sp) (h : ∀ vs H Q E, sp' vs H Q E → sp vs H Q E) : FnG P w K mg base CX k f fd ps sp' :=
  ⟨fun vs H Q E q => F.len vs H Q E (h _ _ _ _ q), fun A outer s H args us vs Q E hg hr e b r q => F.go A outer s H args us vs Q E hg hr e b r (h _ _ _ _ q)⟩
/-- one run of a def, by its body -/
theorem run_def {name qual : Str} {params : Arguments} {body : List Stmt} {scope : Scope} {dV kV doc pm cdv ct oc : Value} {an od : Option Addr} {osl : Array (Option Value)} {N : List Str} {A : Around} {outer : List Env} {s : Shared} {H : Hp} {args : Args} {us : List Value} {vs : List V} {Q : VK} {E : XK} {t : TS}
    (at_f : K.lookup f = some ⟨oc, od, .func (PySem.W.fnOf name qual params body scope dV kV doc pm an cdv ct), osl⟩) (code_f : PySem.W.codeIn K cdv qual = true) (sc : FnScope N ps scope) (room : Room (k + 1) A)
    (e0 : Env0 P w K mg base A outer s H) (bt : BindsTo s (PySem.W.fnOf name qual params body scope dV kV doc pm an cdv ct) args (ps.zip us)) (rv : Vals vs us) (nargs : vs.length = ps.length)
    (walk : PSs (cxOf CX P w K mg base N qual scope f cdv A outer s H E) body t) (told : t { nx := fun _ H' => Q .non H', rt := Q } (start N vs) H) :
    codeAny
          (model P w) A (.call (.ref f) args) (CR CX outer P w H s Q E) s := by
  have inK := e0.mod.kin.keeps fun b o e => (e0.bs b o e).1
  have kinds : ∀ y ∈ ps.zip us, scope.names.lookup y.1 = some .local ∨
      (scope.names.lookup y.1 = some .cell ∧ ((cellsFrom (s.heap.objs.size + 1) scope.names []).lookup y.1).isSome = true) := by
    rintro ⟨n, v⟩ hy
    exact (sc.par n (List.of_mem_zip hy).1).imp id fun q => ⟨q, PySem.W.cellsFrom_some _ _ _ (.inl q)⟩
  refine codeAny_call_function room.depth (inK _ _ at_f) rfl sc.co sc.gen rfl
    (PySem.W.codeRec_of inK code_f) (bt _ _ _ _ (wpAny_newFunctionEnv_cells sc.kind kinds fun env he s1 x => ?_))
  subst he
  have lim : s.heap.NoLimit := e0.mod.nolimit.keeps
    fun b o e => (e0.bs b o e).1
  have I0 := inv_start (CX := CX) (E := E) sc room.hd e0 nargs rv x
  refine ⟨lim.keeps x.toInCall.keep, codeAny_func (wpAny_mono (walk.run [] s1 (start N vs) H _ I0 told) ?_ fun _ _ z => z)⟩
  intro fl s' z
  match fl, z with
  | .ret u, ⟨v, σ', H', J, r, q⟩ => exact ⟨v, H', J.os, J.bare, J.base, J.hok, r, q⟩
  | .next, ⟨σ', H', J, q⟩ => exact ⟨.non, H', J.os, J.bare, J.base, J.hok, rfl, q⟩
  | .brk, ⟨_, _, _, q⟩ => exact q.elim
  | .cont, ⟨_, _, _, q⟩ => exact q.elim
/-- a def with defaults -/
theorem okGD {x qual : Str} {params : Arguments} {body : List Stmt} {scope : Scope} {dvs : List V} {kws : List (Str × V)} {N : List Str} (F : FunD K x qual params body scope dvs kws f fd) (sc : FnScope N ps scope) (len : ∀ vs H Q E, sp vs H Q E → vs.length = ps.length)
    (h : ∀ (cdv : Value) (A : Around) (outer : List Env) (s : Shared) (H : Hp) (vs : List V) (Q : VK) (E : XK), A.guards = some [] → Room k (A.deeper (envOfC qual scope s.heap.objs.size f cdv)) → sp vs H Q E →
      ∃ t, PSs (cxOf (L2.CX P w) P w K mg base N qual scope f cdv A outer s H E) body t ∧ t { nx := fun _ H' => Q .non H', rt := Q } (start N vs) H) : FnG P w K mg base (L2.CX P w) (k + 1) f fd ps sp := by
  (obtain ⟨oc, od, dV, kV, doc, pm, an, cdv, ct, osl, rfl, lk, hcd, _, _⟩ := F.ex)
  refine ⟨len, fun A outer s H args us vs Q E hg hr e0 hb r hs => ?_⟩
  obtain ⟨t, h1, h2⟩ := h cdv A outer s H vs Q E hg (hr.deeper _) hs
  exact run_def lk hcd sc hr e0 hb r (len _ _ _ _ hs) h1 h2
end
/-- what is wished of a callee's exception leans on the slots -/
def tCallX (sp : Sp) (dvs : List V) (E : L2.St → XK) (t : TA) : TE := fun σ H Q => t σ H fun vs H1 => sp (vs ++ dvs) H1 Q (E σ)
def tCallNX (n m : Nat) (sp : Sp) (gV : List V → List V → List V) (E : L2.St → XK) (t tk : TA) : TE := fun σ H Q => t σ H fun vs H1 => tk σ H1 fun zs H2 => vs.length = n ∧ zs.length = m ∧ sp (gV vs zs) H2 Q (E σ)
theorem takes_no {X : Cx} : Takes X noW := takes_none5
section
variable {X : Cx} {CX : CXT} {k n : Nat} {f : Addr} {fd : FuncData} {ps ks : List Str} {sp : Sp} {dvs : List V} {ds : List Value} {E : L2.St → XK} {x : Str} {p pos : Pos} {e : Expr} {es : List Expr} {kws : List Keyword} {t tk : TA} {g : List Value → List Value → List Value} {gV : List V → List V → List V}
theorem ret_of {pins : List (Addr × Obj)} {σ : L2.St} {H : Hp} {s : Shared} {Q : VK} {E : XK} (hx : PassesAt CX X σ E) (I : Inv X pins σ H s) : ∀ (r : Result) (s' : Shared), CR CX X.stack X.prog X.w H s Q E r s' →
    (match r with
      | .ok (.ret u) => EP X pins σ Q u s'
      | .error e => X.xe e s'
      | _ => False)
  | .error e, s', h => hx pins H s e s' I h
  | .ok (.ret u), s', h => I.after h
  | .ok .next, _, h => h.elim
  | .ok .brk, _, h => h.elim
  | .ok .cont, _, h => h.elim
theorem ran {pins : List (Addr × Obj)} {σ : L2.St} {H : Hp} {s : Shared} {Q : VK} {us : List Value} {kw : List (Str × Value)} {E : XK} (hx : PassesAt CX X σ E) (I : Inv X pins σ H s)
    (h : codeAny (model X.prog X.w) X.A (.call (.ref f) ⟨us, kw⟩) (CR CX X.stack X.prog X.w H s Q E) s) : wpAny (model X.prog X.w) X.A (call (.ref f) us kw) (EP X pins σ Q) X.xe s := by
  refine wpAny_call (codeAny_mono h fun r s' hq => ?_)
  have q := ret_of hx I r s' hq
  match r, q with
  | .error e, q => exact q
  | .ok (.ret u), q => exact q
/-- f(e, ..) -/
theorem pe_callG (F : FnG X.prog X.w X.K X.mg X.base CX k f fd ps sp) (hgd : X.A.guards = some []) (hr : Room k X.A) (hm : X.mg x = some (.ref f)) (hk : PySem.W.keepIn X.K (.ref f) = true) (hb : Binds X.K fd ps ds) (hd : Vals dvs ds) (hx : ∀ σ, PassesAt CX X σ (E σ))
    (ha : PA X (e :: es) t) (hg : Gl X x := by rfl) (hdb : (x == ("__debug__" : Str)) = false := by decide) (hs : starEach (e :: es) X.env = (false, eval e X.env) :: starEach es X.env := by rfl)
    (hpl : (backTo pos (starEach es X.env)).any (·.1) = false := by rfl) : PE X (.Call (.Name x p) (e :: es) [] pos) (tCallX sp dvs E t) := by
  constructor
  intro pins s σ H Q I h
  refine wpAny_Call_Name_kw (ld_glob I hg hm (PySem.W.callWith_K (h₀ := X.base) I.ok.mod.kin hk (thn (ha.run pos pins s σ H _ I h) ?_) hs hpl) hdb)
  rintro us s1 ⟨vs, H1, I1, r, q⟩
  have rr : Vals (vs ++ dvs) (us ++ ds) := r.append hd
  have hl : (us ++ ds).length = ps.length := rr.length.symm.trans (F.len _ _ _ _ q)
  exact ⟨I1.kIn, ran (hx σ) I1 (F.go X.A X.stack s1 H1 ⟨us, []⟩ (us ++ ds) (vs ++ dvs) Q (E σ) hgd hr I1.env0 (hb s1 us I1.kIn hl) rr q)⟩
/-- f(e, .., k = v, ..) -/
theorem pe_callKG (F : FnG X.prog X.w X.K X.mg X.base CX k f fd ps sp) (hgd : X.A.guards = some []) (hr : Room k X.A) (hm : X.mg x = some (.ref f)) (hk : PySem.W.keepIn X.K (.ref f) = true) (hb : KBn X.K fd ps n ks g gV) (hx : ∀ σ, PassesAt CX X σ (E σ))
    (ha : PA X (e :: es) t) (hkw : PK X kws tk) (hg : Gl X x := by rfl) (hall : (backToKw pos (keywordEach kws X.env)).all (·.1.isSome) = true := by rfl) (hks : (backToKw pos (keywordEach kws X.env)).filterMap (·.1) = ks := by rfl)
    (hdb : (x == ("__debug__" : Str)) = false := by decide) (hs : starEach (e :: es) X.env = (false, eval e X.env) :: starEach es X.env := by rfl)
    (hpl : ((backTo pos
          (starEach (e :: es) X.env)).any (·.1) || (backToKw pos (keywordEach kws X.env)).any (·.1.isNone)) = false := by rfl) :
    PE X (.Call (.Name x p) (e :: es) kws pos) (tCallNX n ks.length sp gV E t tk) := by
  constructor
  intro pins s σ H Q I h
  refine wpAny_Call_Name_kw (ld_glob I hg hm (PySem.W.callWith_KW (h₀ := X.base) I.ok.mod.kin hk hall (thn (ha.run pos pins s σ H _ I h) ?_) hpl hs) hdb)
  rintro us s1 ⟨vs, H1, I1, r, q⟩
  refine thn (hkw.run pos pins s1 σ H1 _ I1 q) ?_
  rintro ws s2 ⟨zs, H2, I2, rz, l1, l2, q2⟩
  rw [hks]
  have r2 := hb.rel r rz
  exact ⟨I2.kIn, ran (hx σ) I2 (F.go X.A X.stack s2 H2 ⟨us, ks.zip ws⟩ (g us ws) (gV vs zs) Q (E σ) hgd hr I2.env0 (hb.to s2 us ws I2.kIn (r.length.symm.trans l1) (rz.length.symm.trans l2)) r2 q2)⟩
end
/-! ### promises by functions of the data -/
abbrev FnD := List D → M D
/-- a call's end: the value; the exception -/
def FinX (K : PySem.W.Frag) (cl : Cl) (O : List Addr) (H : Hp) (E : XK) (e : Ex) : Prop := ∀ cls d H', Same H H' → ExAt K cl O H' e cls d → E cls d H'
def FinD (K : PySem.W.Frag) (cl : Cl) (O : List Addr) (H : Hp) (Q : VK) (E : XK) : M D → Prop
  | some (.ok r) => ∀ v H', Same H H' → Rp K cl (hide O H') v r → Q v H'
  | some (.ex e _) => FinX K cl O H E e
  | none => False
/-- a def that changes nothing: its value by the data of its arguments -/
def spP (K : PySem.W.Frag) (cl : Cl) (n : Nat) (f : FnD) : Sp := fun vs H Q E => vs.length = n ∧ ∃ (O : List Addr) (ds : List D), (∀ a ∈ O, H a ≠ none) ∧ RpA K cl (hide O H) vs ds ∧ FinD K cl O H Q E (f ds)
/-- .. that makes a new list or dict -/
def spF (K : PySem.W.Frag) (cl : Cl) (n : Nat) (f : FnD) : Sp := fun vs H Q E => vs.length = n ∧ ∃ (O : List Addr) (ds : List D), (∀ a ∈ O, H a ≠ none) ∧ RpA K cl (hide O H) vs ds ∧
  (match f ds with
    | some (.ok r) => ∀ p H', Same H H' → H p = none → OwnAt K cl H (p :: O) H' p r → Q (.ref p) H'
    | some (.ex e _) => FinX K cl O H E e
    | none => False)
/-- .. that changes its first argument (an exception may leave it changed: the new content stands in the exception's state) -/
def spI (K : PySem.W.Frag) (cl : Cl) (n : Nat) (f : D → List D → M (D × D)) : Sp := fun vs H Q E => vs.length = n ∧ ∃ (O : List Addr) (a : Addr) (d : D) (ws : List V) (ds : List D), vs = .ref a :: ws ∧ (∀ b ∈ O, H b ≠ none) ∧ a ∈ O ∧ OwnAt K cl H O H a d ∧ RpA K cl (hide O H) ws ds ∧
  (match f d ds with
    | some (.ok (r, d')) => ∀ v H', (∀ b o, b ≠ a → H b = some o → H' b = some o) → OwnAt K cl H O H' a d' → Rp K cl (hide O H') v r → Q v H'
    | some (.ex e [.val d']) => ∀ cls d H', (∀ b o, b ≠ a → H b = some o → H' b = some o) → OwnAt K cl H O H' a d' → ExAt K cl O H' e cls d → E cls d H'
    | _ => False)
/-- a def's data from its body's -/
def runP (n : Nat) (F : S → M Out) : FnD := fun ds => bd (F (ds.map Sl.val ++ List.replicate (n - ds.length) Sl.un)) fun (o : Out) => match o with
  | .nx _ => ok .non
  | .rt d _ => ok d
  | .rf d _ => ok d
  | _ => none
def runF (n : Nat) (F : S → M Out) : FnD := fun ds => bd (F (ds.map Sl.val ++ List.replicate (n - ds.length) Sl.un)) fun (o : Out) => match o with
  | .rf d _ => ok d
  | _ => none
def exI {α : Type} (m : M α) : M α := match m with
  | some (.ex e s) => match s[0]? with
    | some (Sl.io d') => some (.ex e [.val d'])
    | _ => none
  | m => m
theorem exI_ok {α : Type} (a : α) : exI (ok a) = ok a := by
  have h : exI (ok a) = ok a := rfl
  exact h
def runI (n : Nat) (F : S → M Out) : D → List D → M (D × D) := fun d ds => bd (exI (F (.io d :: (ds.map Sl.val ++ List.replicate (n - (ds.length + 1)) Sl.un)))) fun (o : Out) => match o with
  | .nx s => match s[0]? with
    | some (Sl.io d') => ok (.non, d')
    | _ => none
  | .rt r s => match s[0]? with
    | some (Sl.io d') => ok (r, d')
    | _ => none
  | _ => none
section
variable {K : PySem.W.Frag} {cl : Cl} {wx : WX} {n : Nat} {H : Hp} {vs : List V} {ds : List D} {O : List Addr}
theorem start_len (N : List Str) (vs : List V) : (start N vs).length = vs.length + (N.length - vs.length) := by
  unfold L2.start
  (rw [List.length_append, List.length_map, List.length_replicate])
/-- the state at the entry -/
theorem wl_start (N : List Str) (al : ∀ a ∈ O, H a ≠ none) (r : RpA K cl (hide O H) vs ds) : Wl K cl ⟨O, [], 0, H⟩ [] (ds.map Sl.val ++ List.replicate (N.length - ds.length) Sl.un) (start N vs) H := by
  have e := r.len
  refine ⟨fun _ _ _ e => e, fun a h => by simp at h, fun a h => al a (by simpa using h), fun a h => by simp at h, fun a h => by simp at h, ⟨fun i d q => ?_, fun i d q => ?_, fun i d q => ?_, fun i j d d' a q => ?_, fun i j d d' q => ?_, ?_, .none fun i b d q => ?_⟩⟩
  · by_cases hi : i < ds.length
    · rw [List.getElem?_append_left (by simpa using hi), List.getElem?_map] at q
      cases z : ds[i]? with
      | none => rw [z] at q; cases q
      | some d2 =>
        rw [z] at q
        cases q
        obtain ⟨v, h1, h2⟩ := r.get i z
        refine ⟨v, ?_, h2⟩
        unfold L2.start
        rw [List.getElem?_append_left (by rw [List.length_map]; omega), List.getElem?_map, h1]
        rfl
    · rw [List.getElem?_append_right (by simpa using hi), List.getElem?_replicate] at q
      split at q <;> cases q
  all_goals first
    | (by_cases hi : i < ds.length
       · rw [List.getElem?_append_left (by simpa using hi), List.getElem?_map] at q
         cases z : ds[i]? with
         | none => rw [z] at q; cases q
         | some d2 => rw [z] at q; cases q
       · rw [List.getElem?_append_right (by simpa using hi), List.getElem?_replicate] at q
         split at q <;> cases q)
    | (rw [start_len, List.length_append, List.length_map, List.length_replicate, e])
/-- what the def wishes of its exceptions -/
abbrev wxE (E : XK) : WX := fun cls d _ H => E cls d H
theorem wish_of {E : XK} {e : Ex} {s : S} (h : FinX K cl O H E e) : Wish K cl (wxE E) ⟨O, [], 0, H⟩ e s := fun L σ H1 cls d W x =>
  h cls d H1 (fun b o z => W.keep b o (by simp) z) (x.mono (hide_sub fun a ha => List.mem_append_right _ ha))
/-- a body that keeps to its data keeps the promise -/
theorem walkP {N : List Str} {X : Cx} {body : List Stmt} {ts : List Nat} {F : S → M Out} {Q : VK} {E : XK} (hb : PSs X body (TSof K cl (wxE E) ts F)) (h : spP K cl n (runP N.length F) vs H Q E) : ∃ t, PSs X body t ∧ t { nx := fun _ H' => Q .non H', rt := Q } (start N vs) H := by
  refine ⟨_, hb, ?_⟩
  obtain ⟨_, O, ds, al, r, h⟩ := h
  refine ⟨_, [], _, wl_start N al r, ?_⟩
  unfold runP at h
  match (F (ds.map Sl.val ++ List.replicate (N.length - ds.length) Sl.un) : M Out), h with
  | none, h => exact h.elim
  | some (.ex _ _), h => exact wish_of h
  | some (.ok (.nx s)), h => exact fun L' σ' H' a b c => h .non H' (fun b o e => a.keep b o (by simp) (by simp) e) .non
  | some (.ok (.rt d s)), h => exact fun L' σ' H' v a b c => h v H' (fun b o e => a.keep b o (by simp) (by simp) e) (c.mono (hide_sub fun x hx => List.mem_append_right _ hx))
  | some (.ok (.rf d s)), h => exact fun L' σ' H' p a b c d e => h (.ref p) H' (fun b o e => a.keep b o (by simp) (by simp) e) (e.rp d (hide_sub fun x hx => List.mem_cons_of_mem _ hx))
theorem walkF {N : List Str} {X : Cx} {body : List Stmt} {ts : List Nat} {F : S → M Out} {Q : VK} {E : XK} (hb : PSs X body (TSof K cl (wxE E) ts F)) (h : spF K cl n (runF N.length F) vs H Q E) : ∃ t, PSs X body t ∧ t { nx := fun _ H' => Q .non H', rt := Q } (start N vs) H := by
  refine ⟨_, hb, ?_⟩
  obtain ⟨_, O, ds, al, r, h⟩ := h
  refine ⟨_, [], _, wl_start N al r, ?_⟩
  unfold runF at h
  match (F (ds.map Sl.val ++ List.replicate (N.length - ds.length) Sl.un) : M Out), h with
  | none, h => exact h.elim
  | some (.ex _ _), h => exact wish_of h
  | some (.ok (.rf d s)), h => exact fun L' σ' H' p a b c d e => h p H' (fun b o e => a.keep b o (by simp) (by simp) e) c e
/-- the state at the entry, the first argument is changed for the caller -/
theorem wl_startI {a : Addr} {d : D} {ws : List V} (N : List Str) (hN : vs.length ≤ N.length) (e0 : vs = .ref a :: ws) (al : ∀ b ∈ O, H b ≠ none) (ha : a ∈ O) (ho : OwnAt K cl H O H a d) (r : RpA K cl (hide O H) ws ds) :
    Wl K cl ⟨O, [a], a, H⟩ [] (.io d :: (ds.map Sl.val ++ List.replicate (N.length - (ds.length + 1)) Sl.un)) (start N vs) H := by
  have e := r.len
  have st : start N vs = some (.ref a) :: (ws.map some ++ List.replicate (N.length - (ds.length + 1)) none) := by
    unfold L2.start
    rw [e0, List.map_cons, List.length_cons, e]
    rfl
  have tl : ∀ {i : Nat} {x : Sl}, (ds.map Sl.val ++ List.replicate (N.length - (ds.length + 1)) Sl.un)[i]? = some x → x = .un ∨ ∃ d2, x = .val d2 ∧ ds[i]? = some d2 := fun {i x} q => by
    by_cases hi : i < ds.length
    · rw [List.getElem?_append_left (by simpa using hi), List.getElem?_map] at q
      cases z : ds[i]? with
      | none => rw [z] at q; cases q
      | some d2 => rw [z] at q; cases q; exact .inr ⟨d2, rfl, rfl⟩
    · rw [List.getElem?_append_right (by simpa using hi), List.getElem?_replicate] at q
      split at q
      · cases q; exact .inl rfl
      · cases q
  refine ⟨fun _ _ _ e => e, fun a h => by simp at h, fun b h => al b (by simpa using h), fun a h => by simp at h, fun b h => by
    have : b = a := by simpa using h
    rw [this]; exact ha, ⟨fun i d' q => ?_, fun i d' q => ?_, fun i d' q => ?_, fun i j d1 d2 b q1 q2 => ?_, fun i j d1 d2 q1 q2 => ?_, ?_, .none fun i b d q => by
    cases i with
    | zero => cases q
    | succ i =>
      rw [List.getElem?_cons_succ] at q
      rcases tl q with z | ⟨d2, z, z2⟩ <;> cases z⟩⟩
  · cases i with
    | zero => cases q
    | succ i =>
      rw [List.getElem?_cons_succ] at q
      rcases tl q with z | ⟨d2, z, z2⟩
      · cases z
      · cases z
        obtain ⟨v, h1, h2⟩ := r.get i z2
        refine ⟨v, ?_, h2⟩
        have hi := (List.getElem?_eq_some_iff.mp h1).1
        rw [st, List.getElem?_cons_succ, List.getElem?_append_left (by rw [List.length_map]; exact hi), List.getElem?_map, h1]
        rfl
  · cases i with
    | zero => cases q
    | succ i =>
      rw [List.getElem?_cons_succ] at q
      rcases tl q with z | ⟨d2, z, z2⟩ <;> cases z
  · cases i with
    | zero =>
      cases q
      exact ⟨by rw [st]; rfl, by simp, ho⟩
    | succ i =>
      rw [List.getElem?_cons_succ] at q
      rcases tl q with z | ⟨d2, z, z2⟩ <;> cases z
  · cases i with
    | zero => cases q1
    | succ i =>
      rw [List.getElem?_cons_succ] at q1
      rcases tl q1 with z | ⟨d2, z, z2⟩ <;> cases z
  · cases i with
    | zero =>
      cases j with
      | zero => rfl
      | succ j =>
        rw [List.getElem?_cons_succ] at q2
        rcases tl q2 with z | ⟨d2, z, z2⟩ <;> cases z
    | succ i =>
      rw [List.getElem?_cons_succ] at q1
      rcases tl q1 with z | ⟨d2, z, z2⟩ <;> cases z
  · rw [st, List.length_cons, List.length_cons, List.length_append, List.length_append, List.length_map, List.length_map, List.length_replicate, List.length_replicate, e]
theorem walkI {N : List Str} {X : Cx} {body : List Stmt} {ts : List Nat} {F : S → M Out} {Q : VK} {E : XK} (hN : n ≤ N.length) (hb : PSs X body (TSof K cl (wxE E) ts F)) (h : spI K cl n (runI N.length F) vs H Q E) : ∃ t, PSs X body t ∧ t { nx := fun _ H' => Q .non H', rt := Q } (start N vs) H := by
  refine ⟨_, hb, ?_⟩
  obtain ⟨hn, O, a, d, ws, ds, e0, al, ha, ho, r, h⟩ := h
  refine ⟨_, [], _, wl_startI N (by omega) e0 al ha ho r, ?_⟩
  have fin : ∀ {L' s σ' H' d'}, Wl K cl ⟨O, [a], a, H⟩ L' s σ' H' → s[0]? = some (.io d') → OwnAt K cl H O H' a d' := fun {L' s σ' H' d'} W e => (W.st.io 0 d' e).2.2.move rfl (hide_sub fun x hx => List.mem_append_right _ hx)
  have kp : ∀ {L' H'}, Step ⟨O, [a], a, H⟩ [] H L' H' → ∀ b o, b ≠ a → H b = some o → H' b = some o := fun st b o n e => st.keep b o (by simp) (by simpa using n) e
  unfold runI at h
  match (F (.io d :: (ds.map Sl.val ++ List.replicate (N.length - (ds.length + 1)) Sl.un)) : M Out), h with
  | none, h => exact h.elim
  | some (.ex e s), h =>
    intro L σ1 H1 cls d1 W x
    have h : (match (bd (exI (some (.ex e s) : M Out)) fun (o : Out) => (match o with
      | .nx s => match s[0]? with
        | some (Sl.io d') => ok (D.non, d')
        | _ => none
      | .rt r s => match s[0]? with
        | some (Sl.io d') => ok (r, d')
        | _ => none
      | _ => none : M (D × D))) with
      | some (.ok (r, d')) => ∀ v H', (∀ b o, b ≠ a → H b = some o → H' b = some o) → OwnAt K cl H O H' a d' → Rp K cl (hide O H') v r → Q v H'
      | some (.ex e [.val d']) => ∀ cls d H', (∀ b o, b ≠ a → H b = some o → H' b = some o) → OwnAt K cl H O H' a d' → ExAt K cl O H' e cls d → E cls d H'
      | _ => False) := h
    unfold exI at h
    dsimp only at h
    cases q : s[0]? with
    | none => rw [q] at h; exact h.elim
    | some y =>
      rw [q] at h
      match y, q, h with
      | .io d', q, h => exact h cls d1 H1 (fun b o n z => W.keep b o (by simpa using n) z) (fin W q) (x.mono (hide_sub fun a ha => List.mem_append_right _ ha))
      | .own _, q, h => exact h.elim
      | .val _, q, h => exact h.elim
      | .tre _ _, q, h => exact h.elim
      | .un, q, h => exact h.elim
  | some (.ok (.nx s)), h =>
    intro L' σ' H' st W _
    have h : (match (match s[0]? with
        | some (Sl.io d') => ok (D.non, d')
        | _ => none : M (D × D)) with
      | some (.ok (r, d')) => ∀ v H', (∀ b o, b ≠ a → H b = some o → H' b = some o) → OwnAt K cl H O H' a d' → Rp K cl (hide O H') v r → Q v H'
      | some (.ex e [.val d']) => ∀ cls d H', (∀ b o, b ≠ a → H b = some o → H' b = some o) → OwnAt K cl H O H' a d' → ExAt K cl O H' e cls d → E cls d H'
      | _ => False) := h
    cases q : s[0]? with
    | none => rw [q] at h; exact h.elim
    | some y =>
      rw [q] at h
      match y, q, h with
      | .io d', q, h => exact h .non H' (kp st) (fin W q) .non
      | .own _, q, h => exact h.elim
      | .val _, q, h => exact h.elim
      | .tre _ _, q, h => exact h.elim
      | .un, q, h => exact h.elim
  | some (.ok (.rt rd s)), h =>
    intro L' σ' H' v st W rr
    have h : (match (match s[0]? with
        | some (Sl.io d') => ok (rd, d')
        | _ => none : M (D × D)) with
      | some (.ok (r, d')) => ∀ v H', (∀ b o, b ≠ a → H b = some o → H' b = some o) → OwnAt K cl H O H' a d' → Rp K cl (hide O H') v r → Q v H'
      | some (.ex e [.val d']) => ∀ cls d H', (∀ b o, b ≠ a → H b = some o → H' b = some o) → OwnAt K cl H O H' a d' → ExAt K cl O H' e cls d → E cls d H'
      | _ => False) := h
    cases q : s[0]? with
    | none => rw [q] at h; exact h.elim
    | some y =>
      rw [q] at h
      match y, q, h with
      | .io d', q, h => exact h v H' (kp st) (fin W q) (rr.mono (hide_sub fun x hx => List.mem_append_right _ hx))
      | .own _, q, h => exact h.elim
      | .val _, q, h => exact h.elim
      | .tre _ _, q, h => exact h.elim
      | .un, q, h => exact h.elim
end
end Dt
namespace Dt
open L2 PySem PySem.Spec PyProof.Rows
/-! ### calls of the text's own defs -/
def dCallU (n : Nat) (g : FnD) (dd : List D) (fr : S → M (List D × S)) : S → M (D × S) := fun s => bd (fr s) fun p => if (p.1 ++ dd).length = n then bdC (g (p.1 ++ dd)) p.2 fun r => ok (r, p.2) else none
def dCallK (n a b : Nat) (g : FnD) (gD : List D → List D → List D) (fr fk : S → M (List D × S)) : S → M (D × S) := fun s => bd (fr s) fun p => bd (fk p.2) fun q =>
  if p.1.length = a ∧ q.1.length = b ∧ (gD p.1 q.1).length = n then bdC (g (gD p.1 q.1)) q.2 fun r => ok (r, q.2) else none
/-- the argument's new content is put back, an exception's too -/
def bdI (m : M (D × D)) (s : S) (i : Nat) : M (D × S) := match m with
  | some (.ok q) => ok (q.1, putD s i q.2)
  | some (.ex e [.val d']) => some (.ex e (putD s i d'))
  | _ => none
theorem bdI_ok (q : D × D) (s : S) (i : Nat) : bdI (ok q) s i = ok (q.1, putD s i q.2) := by
  have h : bdI (ok q) s i = ok (q.1, putD s i q.2) := rfl
  exact h
theorem bdC_ok {α β : Type} (a : α) (s : S) (f : α → M β) : bdC (ok a) s f = f a := by
  have h : bdC (ok a) s f = f a := rfl
  exact h
def dCallI (i n : Nat) (g : D → List D → M (D × D)) (fr : S → M (List D × S)) : S → M (D × S) := fun s => match ownD s[i]? with
  | some _ => bd (fr s) fun p => match ownD p.2[i]? with
    | some d => if p.1.length + 1 = n ∧ d.isReg = false then bdI (g d p.1) p.2 i else none
    | none => none
  | none => none
section
variable {X : Cx} {CX : CXT} {k n m : Nat} {f : Addr} {fd : FuncData} {ps ks : List Str} {dvs : List V} {ds : List Value} {dd : List D} {x : Str} {p pos : Pos} {e : Expr} {es : List Expr} {kws : List Keyword} {cl : Cl} {wx : WX} {fr fk : S → M (List D × S)} {g : FnD} {gI : D → List D → M (D × D)}
  {gv : List Value → List Value → List Value} {gV : List V → List V → List V} {gD : List D → List D → List D}
theorem Step.old {w : Wf} {L L' : List Addr} {H H' : Hp} (st : Step w L H L' H') {b : Addr} (h : H' b = none) : H b = none := by
  cases q : H b with
  | none => rfl
  | some o => exact absurd h (st.alv b (by rw [q]; simp))
theorem PostE.finC {K : PySem.W.Frag} {w : Wf} {L : List Addr} {σ : L2.St} {H H2 : Hp} {Q : VK} {s2 : S} {mm : M D} (h : PostE K cl wx w L σ H Q (bdC mm s2 fun r => ok (r, s2))) (st : Step w L H L H2) (W : Wl K cl w L s2 σ H2) : FinD K cl (L ++ w.O0) H2 Q (WE wx σ) mm := by
  match mm, h with
  | none, h => exact h.elim
  | some (.ex e s'), h => exact fun cls d H' sm x => h L σ H' cls d (W.ext sm) x
  | some (.ok r), h => exact fun v H3 sm rp => h v H3 (st.trans (.of_same sm)) (W.ext sm) rp
theorem call_readP (hdd : ∀ H : Hp, RpA X.K cl H dvs dd) : ∀ σ H Q, TEof X.K cl wx (dCallU n g dd fr) σ H Q → tCallX (spP X.K cl n g) dvs (WE wx) (TAof X.K cl wx fr) σ H Q := by
  rintro σ H Q ⟨w, L, sd, W, h⟩
  refine ⟨w, L, sd, W, PostA.bd botE h fun rs s1 h vs H1 st1 W1 rrs => ?_⟩
  dsimp only at h
  split at h
  · next c =>
    have rr := rrs.append (hdd (hide (L ++ w.O0) H1))
    exact ⟨rr.len.trans c, L ++ w.O0, _, W1.alive, rr, h.finC st1 W1⟩
  · exact h.elim
theorem d_call (F : FnG X.prog X.w X.K X.mg X.base (L2.CX X.prog X.w) k f fd ps (spP X.K cl n g)) (hgd : X.A.guards = some []) (hr : Room k X.A) (hm : X.mg x = some (.ref f)) (hk : PySem.W.keepIn X.K (.ref f) = true) (hb : Binds X.K fd ps ds) (hd : Vals dvs ds) (hdd : ∀ H : Hp, RpA X.K cl H dvs dd)
    (ha : PA X (e :: es) (TAof X.K cl wx fr)) (hg : Gl X x := by rfl) (hdb : (x == ("__debug__" : Str)) = false := by decide) (hs : starEach (e :: es) X.env = (false, eval e X.env) :: starEach es X.env := by rfl)
    (hpl : (backTo pos (starEach es X.env)).any (·.1) = false := by rfl) (tk : Takes X wx := by first | assumption | exact takes_no) : PE X (.Call (.Name x p) (e :: es) [] pos) (TEof X.K cl wx (dCallU n g dd fr)) :=
  iE (pe_callG F hgd hr hm hk hb hd (fun σ => passAt tk σ) ha hg hdb hs hpl) (call_readP hdd)
theorem call_readK (hgV : ∀ (H : Hp) vs zs as bs, RpA X.K cl H vs as → RpA X.K cl H zs bs → RpA X.K cl H (gV vs zs) (gD as bs)) {a b : Nat} : ∀ σ H Q, TEof X.K cl wx (dCallK n a b g gD fr fk) σ H Q → tCallNX a b (spP X.K cl n g) gV (WE wx) (TAof X.K cl wx fr) (TAof X.K cl wx fk) σ H Q := by
  rintro σ H Q ⟨w, L, sd, W, h⟩
  refine ⟨w, L, sd, W, PostA.bd botE h fun rs s1 h vs H1 st1 W1 rrs => ?_⟩
  refine ⟨w, L, s1, W1, PostA.bd botE h fun qs s2 h zs H2 st2 W2 rqs => ?_⟩
  dsimp only at h
  split at h
  · next c =>
    have r1 := rrs.mono (st2.sn W2)
    have rr := hgV _ _ _ _ _ r1 rqs
    exact ⟨r1.len.trans c.1, rqs.len.trans c.2.1, rr.len.trans c.2.2, L ++ w.O0, _, W2.alive, rr, h.finC (st1.trans st2) W2⟩
  · exact h.elim
theorem d_callK (F : FnG X.prog X.w X.K X.mg X.base (L2.CX X.prog X.w) k f fd ps (spP X.K cl n g)) (hgd : X.A.guards = some []) (hr : Room k X.A) (hm : X.mg x = some (.ref f)) (hk : PySem.W.keepIn X.K (.ref f) = true) (hb : KBn X.K fd ps m ks gv gV)
    (hgV : ∀ (H : Hp) vs zs as bs, RpA X.K cl H vs as → RpA X.K cl H zs bs → RpA X.K cl H (gV vs zs) (gD as bs)) (ha : PA X (e :: es) (TAof X.K cl wx fr)) (hkw : PK X kws (TAof X.K cl wx fk)) (hg : Gl X x := by rfl)
    (hall : (backToKw pos (keywordEach kws X.env)).all (·.1.isSome) = true := by rfl) (hks : (backToKw pos (keywordEach kws X.env)).filterMap (·.1) = ks := by rfl)
    (hdb : (x == ("__debug__" : Str)) = false := by decide) (hs : starEach (e :: es) X.env = (false, eval e X.env) :: starEach es X.env := by rfl)
    (hpl : ((backTo pos (starEach (e :: es) X.env)).any (·.1) || (backToKw pos (keywordEach kws X.env)).any (·.1.isNone)) = false := by rfl) (tk : Takes X wx := by first | assumption | exact takes_no) :
    PE X (.Call (.Name x p) (e :: es) kws pos) (TEof X.K cl wx (dCallK n m ks.length g gD fr fk)) :=
  iE (pe_callKG F hgd hr hm hk hb (fun σ => passAt tk σ) ha hkw hg hall hks hdb hs hpl) (call_readK hgV)
theorem k_nil {K : PySem.W.Frag} : PK X [] (TAof K cl wx aNil) := iK pk_nil nil_read
theorem k_cons {K : PySem.W.Frag} {nm : Option Str} {kpos : Pos} {fa : S → M (D × S)} (ha : PE X e (TEof K cl wx fa)) (hr : PK X kws (TAof K cl wx fr)) : PK X (⟨nm, e, kpos⟩ :: kws) (TAof K cl wx (aCons fa fr)) := iK (pk_cons ha hr) cons_read
/-- a call that makes a list -/
theorem f_call (F : FnG X.prog X.w X.K X.mg X.base (L2.CX X.prog X.w) k f fd ps (spF X.K cl n g)) (hgd : X.A.guards = some []) (hr : Room k X.A) (hm : X.mg x = some (.ref f)) (hk : PySem.W.keepIn X.K (.ref f) = true) (hb : Binds X.K fd ps ds) (hd : Vals dvs ds) (hdd : ∀ H : Hp, RpA X.K cl H dvs dd)
    (ha : PA X (e :: es) (TAof X.K cl wx fr)) (hg : Gl X x := by rfl) (hdb : (x == ("__debug__" : Str)) = false := by decide) (hs : starEach (e :: es) X.env = (false, eval e X.env) :: starEach es X.env := by rfl)
    (hpl : (backTo pos (starEach es X.env)).any (·.1) = false := by rfl) (tk : Takes X wx := by first | assumption | exact takes_no) : PE X (.Call (.Name x p) (e :: es) [] pos) (TFof X.K cl wx (dCallU n g dd fr)) := by
  refine iE (pe_callG F hgd hr hm hk hb hd (fun σ => passAt tk σ) ha hg hdb hs hpl) ?_
  rintro σ H Q ⟨w, L, sd, W, h⟩
  refine ⟨w, L, sd, W, PostA.bd botF h fun rs s1 h vs H1 st1 W1 rrs => ?_⟩
  dsimp only at h
  split at h
  · next c =>
    have rr := rrs.append (hdd (hide (L ++ w.O0) H1))
    refine ⟨rr.len.trans c, L ++ w.O0, _, W1.alive, rr, ?_⟩
    generalize g (rs ++ dd) = mm at h
    match mm, h with
    | none, h => exact h.elim
    | some (.ex _ _), h => exact fun cls d H' sm x => h L σ H' cls d (W1.ext sm) x
    | some (.ok r), h =>
      intro p H' sm np ho
      have st2 : Step w L H1 (p :: L) H' := ⟨fun b o _ _ e => sm b o e, (Step.of_same (w := w) (L := L) sm).alv, fun a ha => by
        (rcases List.mem_cons.mp ha with rfl | ha)
        · exact .inr np
        · exact .inl ha⟩
      exact h p H' (st1.trans st2) (W1.new_ne np) (W1.ext sm) (W1.made sm np ho.some) (ho.old fun _ z => st1.old z)
  · exact h.elim
/-- a call that changes its first argument, an own list -/
theorem d_callI (i : Nat) {y : Str} {py : Pos} (F : FnG X.prog X.w X.K X.mg X.base (L2.CX X.prog X.w) k f fd ps (spI X.K cl n gI)) (hgd : X.A.guards = some []) (hr : Room k X.A) (hm : X.mg x = some (.ref f)) (hk : PySem.W.keepIn X.K (.ref f) = true) (hb : Binds X.K fd ps [])
    (ha : PA X es (TAof X.K cl wx fr)) (hN : X.N[i]? = some y := by rfl) (hv : Vis X.env.scope y := by first | exact Or.inl rfl | exact Or.inr (Or.inl rfl) | exact Or.inr (Or.inr rfl))
    (hyd : (y == ("__debug__" : Str)) = false := by decide) (hcd : (y == ("__classdict__" : Str)) = false := by decide) (hg : Gl X x := by rfl) (hdb : (x == ("__debug__" : Str)) = false := by decide)
    (hs : starEach (.Name y py :: es) X.env = (false, eval (.Name y py) X.env) :: starEach es X.env := by rfl)
    (hpl : (backTo pos (starEach es X.env)).any (·.1) = false := by rfl) (tk : Takes X wx := by first | assumption | exact takes_no) : PE X (.Call (.Name x p) (.Name y py :: es) [] pos) (TEof X.K cl wx (dCallI i n gI fr)) := by
  refine iE (pe_callG F hgd hr hm hk hb .nil (fun σ => passAt tk σ) (pa_cons (pe_var hN hv hyd hcd) ha hs) hg hdb hs hpl) ?_
  rintro σ H Q ⟨w, L, sd, W, h⟩
  unfold dCallI at h
  split at h
  · next d0 e0 =>
    obtain ⟨a, q1, q2, q3⟩ := W.atD e0
    refine ⟨.ref a, q1, w, L, sd, W, PostA.bd botE h fun rs s1 h vs H1 st1 W1 rrs => ?_⟩
    dsimp only at h
    split at h
    · next d e1 =>
      obtain ⟨a', p1, p2, p3⟩ := W1.atD e1
      rw [q1] at p1
      cases p1
      split at h
      · next c =>
        have hin : a ∈ L ++ w.O0 := by
          rcases p2 with z | z
          · (exact List.mem_append_left _ z)
          · exact List.mem_append_right _ (W1.sub a z.2)
        refine ⟨?_, L ++ w.O0, a, d, vs, rs, ?_, W1.alive, hin, p3.any c.2, rrs, ?_⟩
        · rw [List.append_nil, List.length_cons, rrs.len]; exact c.1
        · rw [List.append_nil]
        · generalize gI d rs = mm at h
          match mm, h with
          | none, h => exact h.elim
          | some (.ex e []), h => exact h.elim
          | some (.ex e (.un :: _)), h => exact h.elim
          | some (.ex e (.own _ :: _)), h => exact h.elim
          | some (.ex e (.io _ :: _)), h => exact h.elim
          | some (.ex e (.val _ :: _ :: _)), h => exact h.elim
          | some (.ex e [.val d']), h =>
            intro cls d2 H' kp ho x
            obtain ⟨W2, st2⟩ := W1.wrote e1 q1 p2 p3.some kp (ho.old fun _ z => W1.old z)
            exact h L σ H' cls d2 W2 x
          | some (.ok (r, d')), h =>
            intro v H' kp ho rv
            obtain ⟨W2, st2⟩ := W1.wrote e1 q1 p2 p3.some kp (ho.old fun _ z => W1.old z)
            exact h v H' (st1.trans st2) W2 rv
      · exact h.elim
    · exact h.elim
  · exact h.elim
end
end Dt
namespace Dt
open L2 PySem PySem.Spec PyProof.Rows
/-! ### items and slices -/
def ixL : Op2 := fun d e => match d, e with
  | .lst ds, .int k => match atI ds k with
    | some r => ok r
    | none => none
  | _, _ => none
def ixT : Op2 := fun d e => match d, e with
  | .tup ds, .int k => match atI ds k with
    | some r => ok r
    | none => none
  | _, _ => none
def cutD (xs : List D) (lo hi : Option Int) : List D := (xs.drop (HT.sIx xs.length 0 lo)).take (HT.sIx xs.length xs.length hi - HT.sIx xs.length 0 lo)
def partNo : S → M (Option Int × S) := fun s => ok (none, s)
def partAt (f : S → M (D × S)) : S → M (Option Int × S) := fun s => bd (f s) fun p => match p.1 with
  | .int i => ok (some i, p.2)
  | _ => none
def dCutL (f : S → M (D × S)) (fl fh : S → M (Option Int × S)) : S → M (D × S) := fun s => bd (f s) fun p => match p.1 with
  | .lst xs => bd (fl p.2) fun q => bd (fh q.2) fun r => ok (.lst (cutD xs q.1 r.1), r.2)
  | _ => none
def dCutT (f : S → M (D × S)) (fl fh : S → M (Option Int × S)) : S → M (D × S) := fun s => bd (f s) fun p => match p.1 with
  | .tup xs => bd (fl p.2) fun q => bd (fh q.2) fun r => ok (.tup (cutD xs q.1 r.1), r.2)
  | _ => none
def dRev (f : S → M (D × S)) : S → M (D × S) := fun s => bd (f s) fun p => match p.1 with
  | .lst xs => ok (.lst xs.reverse, p.2)
  | _ => none
def catL : Op2 := fun d e => match d, e with
  | .lst xs, .lst ys => if xs.length + ys.length ≤ sizeLine then ok (.lst (xs ++ ys)) else none
  | _, _ => none
def PostO (K : PySem.W.Frag) (cl : Cl) (wx : WX) (w : Wf) (L : List Addr) (σ : L2.St) (H : Hp) (Q : Option Int → Hp → Prop) : M (Option Int × S) → Prop
  | some (.ok (o, s')) => ∀ H', Step w L H L H' → Wl K cl w L s' σ H' → Q o H'
  | some (.ex e s') => Wish K cl wx w e s'
  | none => False
def TOof (K : PySem.W.Frag) (cl : Cl) (wx : WX) (f : S → M (Option Int × S)) : TO := fun σ H Q => ∃ w L sd, Wl K cl w L sd σ H ∧ PostO K cl wx w L σ H Q (f sd)
section
variable {X : Cx} {K : PySem.W.Frag} {cl : Cl} {wx : WX} {pos p2 : Pos} {a b e : Expr} {lo hi : Option Expr} {fa fb f : S → M (D × S)} {fl fh : S → M (Option Int × S)} {g : Op2}
theorem rp_at {H : Hp} {xs : List V} {ds : List D} {k : Int} {d : D} (r : RpA K cl H xs ds) (h : atI ds k = some d) : ∃ v, atI xs k = some v ∧ Rp K cl H v d := by
  unfold atI at h ⊢
  rw [r.len]
  cases q : ixN ds.length k with
  | none => rw [q] at h; cases h
  | some j =>
    rw [q] at h
    obtain ⟨v, h1, h2⟩ := r.get j h
    exact ⟨v, h1, h2⟩
theorem d_ixL (ha : PE X a (TEof X.K cl wx fa)) (hb : PE X b (TEof X.K cl wx fb)) (hp : PlainIx b := by exact fun _ _ => rfl) : PE X (.Subscript a b pos) (TEof X.K cl wx (dBin ixL fa fb)) := by
  refine iE (pe_ix ix_list ha hb hp) (bin_read fun O H x y d e Q al rx ry h => ?_)
  unfold ixL at h
  split at h
  · next ds k =>
    cases ry
    cases rx with
    | lst s r =>
      split at h
      · next d e =>
        obtain ⟨v, h1, h2⟩ := rp_at r e
        exact ⟨_, _, _, v, rfl, rfl, hide_le.seq s, h1, h.now h2⟩
      · exact h.elim
  · exact h.elim
theorem iO {t t' : TO} {e : Option Expr} (h : PO X e t) (k : ∀ σ H Q, t' σ H Q → t σ H Q) : PO X e t' := ⟨fun pins s σ H Q I q => h.run pins s σ H Q I (k σ H Q q)⟩
theorem o_none : PO X none (TOof K cl wx partNo) := by
  refine iO po_none ?_
  rintro σ H Q ⟨w, L, sd, W, h⟩
  exact h H .refl W
theorem o_some (he : PE X e (TEof K cl wx f)) : PO X (some e) (TOof K cl wx (partAt f)) := by
  refine iO (po_some he) ?_
  rintro σ H Q ⟨w, L, sd, W, h⟩
  refine ⟨w, L, sd, W, PostE.bd (P := PostO K cl wx w L σ H Q) ⟨fun h => h, fun _ _ h => h⟩ h fun r s1 h v H1 st1 W1 rr => ?_⟩
  cases r with
  | int i => cases rr; exact ⟨i, rfl, h H1 st1 W1⟩
  | _ => exact h.elim
theorem cut_rp {H : Hp} {xs : List V} {ds : List D} (r : RpA K cl H xs ds) (l u : Option Int) : RpA K cl H (cutV xs l u) (cutD ds l u) := by
  unfold cutV cutD
  rw [r.len]
  exact (r.drop _).take _
theorem PostO.bd {w : Wf} {L : List Addr} {σ : L2.St} {H : Hp} {m : M (Option Int × S)} {β : Type} {P : M β → Prop} (hb : Bot K cl wx w P) {f : Option Int × S → M β} (h : P (bd m f)) {C : Option Int → Hp → Prop}
    (k : ∀ r s1, P (f (r, s1)) → ∀ H1, Step w L H L H1 → Wl K cl w L s1 σ H1 → C r H1) : PostO K cl wx w L σ H C m := by
  match m, h with
  | none, h => exact (hb.no h).elim
  | some (.ex e s0), h => exact hb.ex e s0 h
  | some (.ok (r, s1)), h => exact fun H1 a b => k r s1 h H1 a b
/-- xs[lo:hi], a new list -/
theorem f_cutL (ha : PE X a (TEof X.K cl wx fa)) (hl : PO X lo (TOof X.K cl wx fl)) (hh : PO X hi (TOof X.K cl wx fh)) : PE X (.Subscript a (.Slice lo hi none p2) pos) (TFof X.K cl wx (dCutL fa fl fh)) := by
  refine iE (pe_slice sl_list ha hl hh) ?_
  rintro σ H Q ⟨w, L, sd, W, h⟩
  refine ⟨w, L, sd, W, PostE.bd botF h fun r s1 h v H1 st1 W1 rr => ?_⟩
  cases rr with
  | @lst ad xs ds s r =>
    dsimp only at h
    refine ⟨w, L, s1, W1, PostO.bd botF h fun q s2 h H2 st2 W2 => ?_⟩
    refine ⟨w, L, s2, W2, PostO.bd botF h fun u s3 h H3 st3 W3 => ?_⟩
    have sm := (st2.trans st3).sn W1
    refine ⟨_, _, rfl, hide_le.seq (sm.seq s), fun p np => ?_⟩
    have sm2 := same_upd (o := .lst (cutV xs q u)) np
    have st4 : Step w L H3 (p :: L) _ := ⟨(Step.of_same (w := w) (L := L) sm2).keep, (Step.of_same (w := w) (L := L) sm2).alv, fun a ha => by
      (rcases List.mem_cons.mp ha with rfl | ha)
      · exact .inr np
      · exact .inl ha⟩
    exact h p _ (((st1.trans st2).trans st3).trans st4) (W3.new_ne np) (W3.ext sm2) (W3.made sm2 np (by rw [upd_same]; simp)) ⟨_, upd_same, ((cut_rp r q u).mono sm).mono (st4.seen W.sub)⟩
  | _ => exact h.elim
/-- xs[::-1], a new list -/
theorem f_rev {k : Nat} {q1 q2 q3 : Pos} (ha : PE X a (TEof X.K cl wx fa)) : PE X (.Subscript a (.Slice none none (some (.UnaryOp .USub (.Constant (.int 1) k q1) q2)) q3) pos) (TFof X.K cl wx (dRev fa)) := by
  refine iE (pe_revL ha) ?_
  rintro σ H Q ⟨w, L, sd, W, h⟩
  refine ⟨w, L, sd, W, PostE.bd botF h fun r s1 h v H1 st1 W1 rr => ?_⟩
  cases rr with
  | @lst ad xs ds s r =>
    refine ⟨_, _, rfl, hide_le.seq s, fun p np => ?_⟩
    have sm2 := same_upd (o := .lst xs.reverse) np
    have st4 : Step w L H1 (p :: L) _ := ⟨(Step.of_same (w := w) (L := L) sm2).keep, (Step.of_same (w := w) (L := L) sm2).alv, fun a ha => by
      (rcases List.mem_cons.mp ha with rfl | ha)
      · exact .inr np
      · exact .inl ha⟩
    exact h p _ (st1.trans st4) (W1.new_ne np) (W1.ext sm2) (W1.made sm2 np (by rw [upd_same]; simp)) ⟨_, upd_same, r.rev.mono (st4.seen W1.sub)⟩
  | _ => exact h.elim
/-- + of any two lists -/
def rCatL (K : PySem.W.Frag) : R2 := fun x y H Q => ∃ l b xs zs, x = .ref l ∧ y = .ref b ∧ SqL K H l xs ∧ SqL K H b zs ∧ xs.length + zs.length ≤ sizeLine ∧ ∀ p, H p = none → Q (.ref p) (upd H p (.lst (xs ++ zs)))
theorem o_catL : OpR X (binaryOp .Add) (rCatL X.K) := by
  (intro pins s σ H x y v u Q I rx ry h)
  obtain ⟨l, b, xs, zs, rfl, rfl, h1, h2, hz, q⟩ := h
  cases rx
  cases ry
  obtain ⟨its, r1, ⟨⟨c1, dd1, data1, sl1⟩, n1, e1, hc1, hd1, ht1⟩, z1⟩ := I.list h1
  obtain ⟨its2, r2, ⟨⟨c2, dd2, data2, sl2⟩, n2, e2, hc2, hd2, ht2⟩, z2⟩ := I.list h2
  simp only at hc1 hd1 ht1 hc2 hd2 ht2
  subst hc1 hd1 ht1 hc2 hd2 ht2
  have l1 := r1.length
  have l2 := r2.length
  refine concat_meets ⟨_, e1, rfl⟩ ⟨_, e2, rfl⟩ noFill_list_add seq_list_add PySem.F.slot_list_add PySem.F.entry_list_add
    (PySem.F.args_list_add_2 _ _) (list_addW l b its.toArray its2.toArray n1 n2 none none sl1 sl2 (by rw [List.size_toArray, List.size_toArray]; omega)) ⟨e1, e2, ?_⟩
  (have ea : its.toArray ++ its2.toArray = (its ++ its2).toArray := by simp)
  rw [ea]
  refine ⟨.ref _, _, I.laid (t' := s.toks) (o := .lst (xs ++ zs)) (fun _ _ z => Heap.get?_push_of_some _ z) (Nat.le_refl _) ⟨by rw [List.length_append]; exact hz, _, 0, r1.append r2, Heap.get?_push_size _ rfl⟩, rfl, q _ (I.hok.fresh (Nat.le_refl _))⟩
theorem k_catL : OpK X X.K cl (binaryOp .Add) catL := by
  refine ⟨_, o_catL, fun O H x y d e Q al rx ry h => ?_⟩
  unfold catL at h
  split at h
  · next xs ys =>
    split at h
    · next c =>
      cases rx with
      | lst s r =>
        cases ry with
        | lst s2 r2 => exact ⟨_, _, _, _, rfl, rfl, hide_le.seq s, hide_le.seq s2, by rw [r.len, r2.len]; exact c, fun p np => h.new np (.lst (.inl (.inl (hide_new al np))) ((r.mono (hide_upd np)).append (r2.mono (hide_upd np))))⟩
    · exact h.elim
  · exact h.elim
/-! ### a list times an int, the list just made -/
def dRep (fa fb : S → M (D × S)) : S → M (D × S) := fun s => bd (fa s) fun p => bd (fb p.2) fun q => match p.1, q.1 with
  | .lst xs, .int k => if -(2 ^ 63) ≤ k ∧ k < 2 ^ 63 ∧ xs.length * k.toNat ≤ sizeLine then ok (.lst (List.replicate k.toNat xs).flatten, q.2) else none
  | _, _ => none
end
end Dt
namespace Dt
open L2 PySem PySem.Spec PyProof.Rows
/-! ### isinstance(e, T), T a built-in type -/
def tyD : D → Option String
  | .non => some "NoneType"
  | .bl _ => some "bool"
  | .int _ => some "int"
  | .str _ => some "str"
  | .lst _ => some "list"
  | .tup _ => some "tuple"
  | _ => none
def isD (T : String) (d : D) : M D := match tyD d with
  | some a => match kitB a T with
    | some b => ok (.bl b)
    | none => none
  | none => none
def dIsi (T : String) (f : S → M (D × S)) : S → M (D × S) := fun s => bd (f s) fun p => bd (isD T p.1) fun r => ok (r, p.2)
section
variable {X : Cx} {cl : Cl} {wx : WX} {pos p0 p2 : Pos} {a b e : Expr} {f fa fb : S → M (D × S)}
theorem ty_of {K : PySem.W.Frag} {O : List Addr} {H : Hp} {v : V} {d : D} {n : String} (r : Rp K cl (hide O H) v d) (h : tyD d = some n) : TyX K H v (.type n) := by
  cases r with
  | non => cases h; exact .base .non
  | bl x => cases h; exact .base (.bl x)
  | int i => cases h; exact .base (.int i)
  | str x => cases h; exact .base (.str x)
  | lst q _ =>
    cases h
    rcases hide_le.seq q with (z | ⟨o, z⟩) | ⟨o, its, n, z, c, _⟩
    · exact .base (.lst z)
    · exact .base (.frz z)
    · exact .kList z c
  | tup q _ =>
    cases h
    rcases same_sqT hide_le q with (z | ⟨o, z⟩) | ⟨o, its, n, z, c, _⟩
    · exact .base (.tup z)
    · exact .fTuple z
    · exact .kTuple z c
  | obj => cases h
  | dic => cases h
  | reg => cases h
  | err => cases h
  | cls => cases h
  | tab => cases h
  | fn _ _ => cases h
  | tz _ _ _ _ => cases h
/-! ### [..] * k -/
end
/-! ### keywords of a def without defaults -/
theorem kbN {K : PySem.W.Frag} {x qual : Str} {params : Arguments} {body : List Stmt} {scope : Scope} {f : Addr} {fd : FuncData} {ps : List Str} (F : FunD K x qual params body scope [] [] f fd) (n : Nat) (ks : List Str) (g : {α : Type} → List α → List α → List α)
    (hrel : ∀ {vs zs : List V} {us ws : List Value}, Vals vs us → Vals zs ws → Vals (g vs zs) (g us ws))
    (h : ∀ (kV doc pm : Value) (an : Option Addr) (cdv ct : Value) (us ws : List Value), us.length = n → ws.length = ks.length → bindArgs (PySem.W.fnOf x qual params body scope .none kV doc pm an cdv ct) ⟨us, ks.zip ws⟩ = pure (ps.zip (g us ws))) :
    KBn K fd ps n ks (fun us ws => g us ws) (fun vs zs => g vs zs) := by
  (obtain ⟨oc, od, dV, kV, doc, pm, an, cdv, ct, osl, rfl, lk, hcd, hD, hK⟩ := F.ex)
  (rcases hD with ⟨_, rfl⟩ | ⟨e, _⟩)
  · exact ⟨fun s us ws _ l1 l2 => .of_eq (h kV doc pm an cdv ct us ws l1 l2), fun a b => hrel a b⟩
  · exact absurd rfl e
/-! ### the law's end -/
theorem ints_rp {K : PySem.W.Frag} {cl : Cl} {H : Hp} : ∀ ns : List Int, RpA K cl H (ns.map V.int) (ns.map D.int)
  | [] => .nil
  | n :: ns => .cons (.int n) (ints_rp ns)
end Dt
namespace Dt
open L2 PySem PySem.Spec PyProof.Rows
section
variable {X : Cx} {K : PySem.W.Frag} {cl : Cl} {wx : WX}
theorem u64 {k : Nat} {A : Around} (r : Room k A) : A.units + 64 < cLine := by
  have := r.un
  omega
theorem u65 {k : Nat} {A : Around} (r : Room k A) : A.units + 65 < cLine := by
  have := r.un
  omega
/-- a def that keeps its promise, from its walk -/
theorem okP {P : Program} {w : World} {mg : Str → Option Value} {base : Heap} {k : Nat} {f : Addr} {fd : FuncData} {ps : List Str} {x qual : Str} {params : Arguments} {body : List Stmt} {scope : Scope} {dvs : List V} {kws : List (Str × V)} {N : List Str} {F : S → M Out} {n : Nat} {g : FnD}
    (D0 : FunD K x qual params body scope dvs kws f fd) (sc : FnScope N ps scope) (eg : g = runP N.length F) (en : n = ps.length)
    (h : ∀ (cdv : Value) (A : Around) (outer : List Env) (s : Shared) (H : Hp) (E : XK), A.guards = some [] → Room k (A.deeper (envOfC qual scope s.heap.objs.size f cdv)) →
      Takes (cxOf (L2.CX P w) P w K mg base N qual scope f cdv A outer s H E) (wxE E) → PassesOwn (model P w) (cxOf (L2.CX P w) P w K mg base N qual scope f cdv A outer s H E).A (cxOf (L2.CX P w) P w K mg base N qual scope f cdv A outer s H E).env (cxOf (L2.CX P w) P w K mg base N qual scope f cdv A outer s H E).xe →
      ∃ ts, PSs (cxOf (L2.CX P w) P w K mg base N qual scope f cdv A outer s H E) body (TSof K cl (wxE E) ts F)) : FnG P w K mg base (L2.CX P w) (k + 1) f fd ps (spP K cl n g) := by
  subst eg en
  refine okGD D0 sc (fun vs H Q E z => z.1) fun cdv A outer s H vs Q E hg hr z => ?_
  obtain ⟨ts, hb⟩ := h cdv A outer s H E hg hr (takes_of rfl rfl rfl rfl) (passes_of rfl)
  exact walkP hb z
theorem okF {P : Program} {w : World} {mg : Str → Option Value} {base : Heap} {k : Nat} {f : Addr} {fd : FuncData} {ps : List Str} {x qual : Str} {params : Arguments} {body : List Stmt} {scope : Scope} {dvs : List V} {kws : List (Str × V)} {N : List Str} {F : S → M Out} {n : Nat} {g : FnD}
    (D0 : FunD K x qual params body scope dvs kws f fd) (sc : FnScope N ps scope) (eg : g = runF N.length F) (en : n = ps.length)
    (h : ∀ (cdv : Value) (A : Around) (outer : List Env) (s : Shared) (H : Hp) (E : XK), A.guards = some [] → Room k (A.deeper (envOfC qual scope s.heap.objs.size f cdv)) →
      Takes (cxOf (L2.CX P w) P w K mg base N qual scope f cdv A outer s H E) (wxE E) → PassesOwn (model P w) (cxOf (L2.CX P w) P w K mg base N qual scope f cdv A outer s H E).A (cxOf (L2.CX P w) P w K mg base N qual scope f cdv A outer s H E).env (cxOf (L2.CX P w) P w K mg base N qual scope f cdv A outer s H E).xe →
      ∃ ts, PSs (cxOf (L2.CX P w) P w K mg base N qual scope f cdv A outer s H E) body (TSof K cl (wxE E) ts F)) : FnG P w K mg base (L2.CX P w) (k + 1) f fd ps (spF K cl n g) := by
  subst eg en
  refine okGD D0 sc (fun vs H Q E z => z.1) fun cdv A outer s H vs Q E hg hr z => ?_
  obtain ⟨ts, hb⟩ := h cdv A outer s H E hg hr (takes_of rfl rfl rfl rfl) (passes_of rfl)
  exact walkF hb z
theorem okI {P : Program} {w : World} {mg : Str → Option Value} {base : Heap} {k : Nat} {f : Addr} {fd : FuncData} {ps : List Str} {x qual : Str} {params : Arguments} {body : List Stmt} {scope : Scope} {dvs : List V} {kws : List (Str × V)} {N : List Str} {F : S → M Out} {n : Nat} {g : D → List D → M (D × D)}
    (D0 : FunD K x qual params body scope dvs kws f fd) (sc : FnScope N ps scope) (eg : g = runI N.length F) (en : n = ps.length) (hn : ps.length ≤ N.length)
    (h : ∀ (cdv : Value) (A : Around) (outer : List Env) (s : Shared) (H : Hp) (E : XK), A.guards = some [] → Room k (A.deeper (envOfC qual scope s.heap.objs.size f cdv)) →
      Takes (cxOf (L2.CX P w) P w K mg base N qual scope f cdv A outer s H E) (wxE E) → PassesOwn (model P w) (cxOf (L2.CX P w) P w K mg base N qual scope f cdv A outer s H E).A (cxOf (L2.CX P w) P w K mg base N qual scope f cdv A outer s H E).env (cxOf (L2.CX P w) P w K mg base N qual scope f cdv A outer s H E).xe →
      ∃ ts, PSs (cxOf (L2.CX P w) P w K mg base N qual scope f cdv A outer s H E) body (TSof K cl (wxE E) ts F)) : FnG P w K mg base (L2.CX P w) (k + 1) f fd ps (spI K cl n g) := by
  subst eg en
  refine okGD D0 sc (fun vs H Q E z => z.1) fun cdv A outer s H vs Q E hg hr z => ?_
  obtain ⟨ts, hb⟩ := h cdv A outer s H E hg hr (takes_of rfl rfl rfl rfl) (passes_of rfl)
  exact walkI hn hb z
end
end Dt
namespace Dt
open L2 PySem PySem.Spec PyProof.Rows
/-! ### list(zip(a, b)) of two lists -/
/-- what has been drawn -/
def PairsAt (H1 H : Hp) (xs ys : List V) (k : Nat) (out : List V) : Prop := out.length = k ∧ ∀ j, j < k → ∃ T x y, out[j]? = some (.ref T) ∧ xs[j]? = some x ∧ ys[j]? = some y ∧ H T = some (.tup [x, y]) ∧ H1 T = none
/-- the state of the drawing -/
structure Dz (P : Program) (w : World) (h0 : Heap) (H1 : Hp) (z TI TO i1 i2 l1 l2 S : Addr) (xs ys : List V) (k : Nat) (h : Heap) (H : Hp) (acc : Array Value) (out : List V) : Prop where
  keep : ∀ b o, h0.get? b = some o → h.get? b = some o
  sz : h0.objs.size ≤ h.objs.size
  hok : HOk P w H h
  same : ∀ b o, H1 b = some o → H b = some o
  new : ∀ b, H b ≠ none → H1 b = none → h0.objs.size ≤ b
  ti : IsPair h TI (.ref i1) (.ref i2)
  tot : ∃ o, h.get? TO = some o
  it1 : h.IsListIter i1 l1 k
  it2 : h.IsListIter i2 l2 k
  zs : (IsZip h z TI TO .none ∧ ∃ a b, IsPair h TO a b) ∨ ∃ T f oT, IsZipHeld h z TI TO T f ∧ h.get? T = some oT ∧ T ≠ z ∧ T ≠ i1 ∧ T ≠ i2 ∧ T ≠ S
  lst : ∃ c, h.get? S = some (lstObj acc c)
  rel : Vals out acc.toList
  prs : PairsAt H1 H xs ys k out
  hz : H z = none
  hTO : H TO = none
  h1 : H i1 = none
  h2 : H i2 = none
  hS : H S = none
section
variable {P : Program} {w : World} {h0 : Heap} {H1 : Hp} {z TI TO i1 i2 l1 l2 S : Addr} {xs ys : List V} {k : Nat} {h h' : Heap} {H : Hp} {acc : Array Value} {out : List V}
theorem two_le {x y : V} : [x, y].length ≤ sizeLine := by
  show 2 ≤ 2 ^ 24
  decide
/-- one pair more -/
theorem Dz.more (D : Dz P w h0 H1 z TI TO i1 i2 l1 l2 S xs ys k h H acc out) (Z : ZipApart z TI TO i1 i2 l1 l2) {x y : V} {u v : Value} (ru : RelV x u) (rv : RelV y v) (ex : xs[k]? = some x) (ey : ys[k]? = some y)
    (b0 : ∀ b, b = z ∨ b = TO ∨ b = i1 ∨ b = i2 ∨ b = S → h0.objs.size ≤ b) (nTI : TI ≠ S) (nTO : TO ≠ S) (nz : z ≠ S) (n1 : i1 ≠ S) (n2 : i2 ≠ S)
    (hk : ∀ c o, c ≠ z → c ≠ TO → c ≠ i1 → c ≠ i2 → h.get? c = some o → h'.get? c = some o) (hsz : h'.objs.size = h.objs.size + 1) (a1 : IsZipHeld h' z TI TO h.objs.size false ∨ IsZipHeld h' z TI TO h.objs.size true ∨ ∃ T oT, IsZipHeld h' z TI TO T true ∧ h'.get? T = some oT ∧ T ≠ z ∧ T ≠ i1 ∧ T ≠ i2 ∧ T ≠ S)
    (a3 : h'.IsListIter i1 l1 (k + 1)) (a4 : h'.IsListIter i2 l2 (k + 1)) (a5 : IsPair h' h.objs.size u v) (a6 : ∃ o, h'.get? TO = some o) :
    Dz P w h0 H1 z TI TO i1 i2 l1 l2 S xs ys (k + 1) (h'.update S (Obj.mapSeq (·.push (.ref h.objs.size)))) (upd H h.objs.size (.tup [x, y])) (acc.push (.ref h.objs.size)) (out ++ [.ref h.objs.size]) := by
  obtain ⟨c, hl⟩ := D.lst
  have lt : ∀ {c o}, h.get? c = some o → h.objs.size ≠ c := fun e => Nat.ne_of_gt (Heap.lt_size e)
  have hT : H h.objs.size = none := D.hok.fresh (Nat.le_refl _)
  have TS : h.objs.size ≠ S := lt hl
  have Tz : h.objs.size ≠ z := by
    rcases D.zs with ⟨e, _⟩ | ⟨_, _, _, e, _⟩ <;> exact lt e
  have T1 : h.objs.size ≠ i1 := by
    obtain ⟨o, e, _⟩ := D.it1
    exact lt e
  have T2 : h.objs.size ≠ i2 := by
    obtain ⟨o, e, _⟩ := D.it2
    exact lt e
  have up : ∀ b o, b ≠ S → h'.get? b = some o → (h'.update S (Obj.mapSeq (·.push (.ref h.objs.size)))).get? b = some o := fun b o n e => (Heap.get?_update_other _ _ (Ne.symm n)).trans e
  have big : ∀ {b o}, h0.get? b = some o → b ≠ z ∧ b ≠ TO ∧ b ≠ i1 ∧ b ≠ i2 ∧ b ≠ S := fun {b o} e => by
    have l := Heap.lt_size e
    refine ⟨fun q => ?_, fun q => ?_, fun q => ?_, fun q => ?_, fun q => ?_⟩
    · exact absurd (b0 b (.inl q)) (Nat.not_le.mpr l)
    · exact absurd (b0 b (.inr (.inl q))) (Nat.not_le.mpr l)
    · exact absurd (b0 b (.inr (.inr (.inl q)))) (Nat.not_le.mpr l)
    · exact absurd (b0 b (.inr (.inr (.inr (.inl q))))) (Nat.not_le.mpr l)
    · exact absurd (b0 b (.inr (.inr (.inr (.inr q))))) (Nat.not_le.mpr l)
  have trk : ∀ {b : Addr}, H b ≠ none → b ≠ z ∧ b ≠ TO ∧ b ≠ i1 ∧ b ≠ i2 ∧ b ≠ S := fun {b} n =>
    ⟨fun q => n (q ▸ D.hz), fun q => n (q ▸ D.hTO), fun q => n (q ▸ D.h1), fun q => n (q ▸ D.h2), fun q => n (q ▸ D.hS)⟩
  have stay : ∀ b o, H b ≠ none → h.get? b = some o → (h'.update S (Obj.mapSeq (·.push (.ref h.objs.size)))).get? b = some o := fun b o n e =>
    let ⟨q1, q2, q3, q4, q5⟩ := trk n
    up b o q5 (hk b o q1 q2 q3 q4 e)
  have h0le : h0.objs.size ≤ h.objs.size := D.sz
  refine ⟨fun b o e => ?_, ?_, fun b o e => ?_, fun b o e => ?_, fun b n e => ?_, ?_, ?_, ?_, ?_, ?_, ?_, ?_, ?_, ?_, ?_, ?_, ?_, ?_⟩
  · obtain ⟨q1, q2, q3, q4, q5⟩ := big e
    exact up b o q5 (hk b o q1 q2 q3 q4 (D.keep b o e))
  · rw [Heap.size_update, hsz]
    omega
  · by_cases q : b = h.objs.size
    · subst q
      rw [upd_same] at e
      cases e
      exact ⟨two_le, [u, v], .cons ru (.cons rv .nil), _, up _ _ TS a5, rfl, 0, rfl⟩
    · rw [upd_ne q] at e
      have nb : H b ≠ none := by rw [e]; simp
      refine (D.hok b o e).stay (fun b' u' hb e' => stay b' u' ?_ e') (fun b' e' => by rw [upd_ne (ne_of_none e' hT)]; exact e') fun b' xs' e' => by rw [upd_ne (ne_of_none e' hT)]; exact e'
      rcases hb with hb | hb
      · rw [hb]; exact nb
      · rw [hb]; simp
  · have := D.same b o e
    rw [upd_ne (ne_of_none this hT)]
    exact this
  · by_cases q : b = h.objs.size
    · rw [q]; exact h0le
    · rw [upd_ne q] at n
      exact D.new b n e
  · exact up _ _ nTI (hk _ _ Z.TIz Z.TITO Z.TIi1 Z.TIi2 D.ti)
  · obtain ⟨o, e⟩ := a6
    exact ⟨o, up _ _ nTO e⟩
  · exact a3.at fun o e => up _ _ n1 e
  · exact a4.at fun o e => up _ _ n2 e
  · rcases a1 with a1 | a1 | ⟨T, oT, a1, e, q1, q2, q3, q4⟩
    · exact .inr ⟨_, _, _, up _ _ nz a1, up _ _ TS a5, Tz, T1, T2, TS⟩
    · exact .inr ⟨_, _, _, up _ _ nz a1, up _ _ TS a5, Tz, T1, T2, TS⟩
    · exact .inr ⟨_, _, _, up _ _ nz a1, up _ _ q4 e, q1, q2, q3, q4⟩
  · have e := hk S _ (Ne.symm nz) (Ne.symm nTO) (Ne.symm n1) (Ne.symm n2) hl
    exact ⟨_, Heap.get?_update_self (Obj.mapSeq (·.push (.ref h.objs.size))) e rfl⟩
  · rw [Array.toList_push]
    exact D.rel.append (.cons rfl .nil)
  · obtain ⟨q1, q2⟩ := D.prs
    refine ⟨by rw [List.length_append, q1]; rfl, fun j hj => ?_⟩
    by_cases e : j < k
    · obtain ⟨T, x', y', p1, p2, p3, p4, p5⟩ := q2 j e
      refine ⟨T, x', y', by rw [List.getElem?_append_left (by omega)]; exact p1, p2, p3, by rw [upd_ne (ne_of_none p4 hT)]; exact p4, p5⟩
    · have ej : j = k := by omega
      subst ej
      refine ⟨h.objs.size, x, y, by rw [List.getElem?_append_right (by omega), q1, Nat.sub_self]; rfl, ex, ey, upd_same, ?_⟩
      cases q : H1 h.objs.size with
      | none => rfl
      | some o =>
        have := D.same _ _ q
        rw [hT] at this
        cases this
  · rw [upd_ne (Ne.symm Tz)]; exact D.hz
  · obtain ⟨o, e⟩ := D.tot
    rw [upd_ne (Ne.symm (lt e))]
    exact D.hTO
  · rw [upd_ne (Ne.symm T1)]; exact D.h1
  · rw [upd_ne (Ne.symm T2)]; exact D.h2
  · rw [upd_ne (Ne.symm TS)]; exact D.hS
/-- the heap behind the last pair -/
structure Fz (P : Program) (w : World) (h0 : Heap) (H1 : Hp) (S : Addr) (xs ys : List V) (h : Heap) (H : Hp) (acc : Array Value) (out : List V) : Prop where
  keep : ∀ b o, h0.get? b = some o → h.get? b = some o
  hok : HOk P w H h
  same : ∀ b o, H1 b = some o → H b = some o
  new : ∀ b, H b ≠ none → H1 b = none → h0.objs.size ≤ b
  lst : ∃ c, h.get? S = some (lstObj acc c)
  rel : Vals out acc.toList
  prs : PairsAt H1 H xs ys (min xs.length ys.length) out
  hS : H S = none
theorem Dz.last (D : Dz P w h0 H1 z TI TO i1 i2 l1 l2 S xs ys (min xs.length ys.length) h H acc out) (b0 : ∀ b, b = z ∨ b = TO ∨ b = i1 ∨ b = i2 → h0.objs.size ≤ b) (nTO : TO ≠ S) (nz : z ≠ S) (n1 : i1 ≠ S) (n2 : i2 ≠ S)
    (hk : ∀ c o, c ≠ z → c ≠ TO → c ≠ i1 → c ≠ i2 → h.get? c = some o → h'.get? c = some o) : Fz P w h0 H1 S xs ys h' H acc out := by
  obtain ⟨c, hl⟩ := D.lst
  have stay : ∀ b o, H b ≠ none → h.get? b = some o → h'.get? b = some o := fun b o n e => hk b o (fun q => n (q ▸ D.hz)) (fun q => n (q ▸ D.hTO)) (fun q => n (q ▸ D.h1)) (fun q => n (q ▸ D.h2)) e
  refine ⟨fun b o e => ?_, fun b o e => ?_, D.same, D.new, ⟨c, hk S _ (Ne.symm nz) (Ne.symm nTO) (Ne.symm n1) (Ne.symm n2) hl⟩, D.rel, D.prs, D.hS⟩
  · have l := Heap.lt_size e
    have far : ∀ {d}, h0.objs.size ≤ d → b ≠ d := fun q z => absurd (z ▸ q) (Nat.not_le.mpr l)
    exact hk b o (far (b0 z (.inl rfl))) (far (b0 TO (.inr (.inl rfl)))) (far (b0 i1 (.inr (.inr (.inl rfl))))) (far (b0 i2 (.inr (.inr (.inr rfl))))) (D.keep b o e)
  · have nb : H b ≠ none := by rw [e]; simp
    refine (D.hok b o e).stay (fun b' u' hb e' => stay b' u' ?_ e') (fun _ q => q) fun _ _ q => q
    rcases hb with hb | hb
    · rw [hb]; exact nb
    · rw [hb]; simp
end
section
variable {X : Cx} {ta : TA} {a b : Expr} {p1 p2 pz pos : Pos} {k : Nat}
end
/-- list(zip(a, b)) -/
def dListZip (fr : S → M (List D × S)) : S → M (D × S) := fun s => bd (fr s) fun p => match p.1 with
  | [.lst ds, .lst es] => ok (.lst (zipD ds es), p.2)
  | _ => none
section
variable {X : Cx} {cl : Cl} {wx : WX} {a b : Expr} {p1 p2 pz pos : Pos} {k : Nat} {fr : S → M (List D × S)}
end
end Dt
namespace Dt
open L2 PySem PySem.Spec PyProof.Rows
/-! ### texts told apart -/
def eqS : Op2 := fun d e => match d, e with
  | .str x, .str y => ok (.bl (decide (x = y)))
  | _, _ => none
def neS : Op2 := fun d e => match d, e with
  | .str x, .str y => ok (.bl (!decide (x = y)))
  | _, _ => none
section
variable {X : Cx} {K : PySem.W.Frag} {cl : Cl} {wx : WX}
theorem dec_strV {x y : Str} : decide (V.str x = V.str y) = decide (x = y) := by
  rw [Bool.eq_iff_iff]
  simp
theorem k_eqS : OpK X K cl (compareOp .Eq) eqS := by
  refine ⟨_, op_eq, fun O H x y d e Q _ rx ry h => ?_⟩
  unfold eqS at h
  split at h
  · cases rx
    cases ry
    exact ⟨rfl, by rw [dec_strV]; exact h.now (.bl _)⟩
  · exact h.elim
theorem k_neS : OpK X K cl (compareOp .NotEq) neS := by
  refine ⟨_, op_ne, fun O H x y d e Q _ rx ry h => ?_⟩
  unfold neS at h
  split at h
  · cases rx
    cases ry
    exact ⟨rfl, by rw [dec_strV]; exact h.now (.bl _)⟩
  · exact h.elim
end
end Dt
namespace Dt
open L2 PySem PySem.Spec PyProof.Rows
/-! ### xs.index(e) -/
section
variable {X : Cx} {cl : Cl} {wx : WX} {o e : Expr} {fa fb : S → M (D × S)} {apos cpos : Pos}
end
end Dt
namespace Dt
open L2 PySem PySem.Spec PyProof.Rows
/-! ### def f(*v) -/
structure FnV (P : Program) (w : World) (K : PySem.W.Frag) (mg : Str → Option Value) (base : Heap) (k : Nat) (f : Addr) (sp : Sp) : Prop where
  go : ∀ (A : Around) (outer : List Env) (s : Shared) (H : Hp) (us : List Value) (vs : List V) (Q : VK) (E : XK), A.guards = some [] → Room k A →
    Env0 P w K mg base A outer s H → Vals vs us → sp vs H Q E → codeAny (model P w) A (.call (.ref f) ⟨us, []⟩) (CR (L2.CX P w) outer P w H s Q E) s
theorem FnV.mono {P : Program} {w : World} {K : PySem.W.Frag} {mg : Str → Option Value} {base : Heap} {k j : Nat} {f : Addr} {sp : Sp} (F : FnV P w K mg base j f sp) (h : j ≤ k) : FnV P w K mg base k f sp :=
  ⟨fun A outer s H us vs Q E hg hr => F.go A outer s H us vs Q E hg (hr.mono h)⟩
/-! ### calls f(e, ..) of def f(*v) -/
def dCallV (g : FnD) (fr : S → M (List D × S)) : S → M (D × S) := fun s => bd (fr s) fun p => if p.1.length ≤ sizeLine then bdC (g [.tup p.1]) p.2 fun r => ok (r, p.2) else none
section
variable {X : Cx} {k : Nat} {f : Addr} {x : Str} {p pos : Pos} {e : Expr} {es : List Expr} {cl : Cl} {wx : WX} {fr : S → M (List D × S)} {g : FnD}
end
/-! ### a, b = ([], []), lists of the def's own -/
section
variable {X : Cx} {K : PySem.W.Frag} {cl : Cl} {wx : WX}
end
end Dt
namespace Dt
open L2 PySem PySem.Spec PyProof.Rows
/-! ### enumerate of a tuple -/
def iEnT (fr : S → M (List D × S)) : S → M (List D × S) := fun s => bd (fr s) fun p => match p.1 with
  | [.tup ds] => ok (enumD 0 ds, p.2)
  | _ => none
section
variable {X : Cx} {K : PySem.W.Frag} {cl : Cl} {wx : WX} {pos p : Pos} {e : Expr} {fr : S → M (List D × S)}
end
end Dt
namespace Dt
open L2 PySem PySem.Spec PyProof.Rows
/-! ### reckoning with mirrors -/
theorem v_add (i j : Int) : addI (.int i) (.int j) = ok (.int (i + j)) := rfl
theorem v_sub (i j : Int) : subI (.int i) (.int j) = ok (.int (i - j)) := rfl
theorem v_mulL {i j : Int} (h1 : -(2 ^ 64) < i) (h2 : i < 2 ^ 64) : mulI (.int i) (.int j) = ok (.int (i * j)) := if_pos (.inl ⟨h1, h2⟩)
theorem v_mulR {i j : Int} (h1 : -(2 ^ 64) < j) (h2 : j < 2 ^ 64) : mulI (.int i) (.int j) = ok (.int (i * j)) := if_pos (.inr (.inl ⟨h1, h2⟩))
theorem v_mod {i j : Int} (h : 0 < j) : modI (.int i) (.int j) = ok (.int (i % j)) := if_pos h
theorem v_div {i j : Int} (h : divOk j) : divI (.int i) (.int j) = ok (.int (i / j)) := if_pos h
theorem v_pow {i j : Int} (h : powOk i j) : powI (.int i) (.int j) = ok (.int (i ^ j.toNat)) := if_pos h
theorem v_lt (i j : Int) : ltI (.int i) (.int j) = ok (.bl (decide (i < j))) := rfl
theorem v_le (i j : Int) : leI (.int i) (.int j) = ok (.bl (decide (i ≤ j))) := rfl
theorem v_gt (i j : Int) : gtI (.int i) (.int j) = ok (.bl (decide (j < i))) := rfl
theorem v_ge (i j : Int) : geI (.int i) (.int j) = ok (.bl (decide (j ≤ i))) := rfl
theorem v_is0 : isNon .non .non = ok (.bl true) := rfl
theorem v_is1 (i : Int) : isNon (.int i) .non = ok (.bl false) := rfl
theorem v_eqI (i j : Int) : eqD (.int i) (.int j) = ok (.bl (decide (i = j))) := by
  unfold eqD
  simp only [D.plain, D.py, SeqAt.shaped, Bool.and_self, if_true]
  congr
theorem v_neI (i j : Int) : neD (.int i) (.int j) = ok (.bl (!decide (i = j))) := by
  unfold neD
  simp only [D.plain, D.py, SeqAt.shaped, Bool.and_self, if_true]
  congr
theorem v_isII (i : Int) : isD "int" (.int i) = ok (.bl true) := rfl
theorem v_isBI (i : Int) : isD "bool" (.int i) = ok (.bl false) := by
  have h : kitB "int" "bool" = some false := by decide +kernel
  unfold isD tyD
  simp only [h]
/-- (no rfl theorem: simp shall not fold it into a check by unfolding) -/
theorem bd_ok' {α β : Type} (a : α) (f : α → M β) : bd (ok a) f = f a := by
  have h : bd (ok a) f = f a := rfl
  exact h
/-- lists of ints -/
abbrev iD (ns : List Int) : List D := ns.map D.int
theorem plains_i : ∀ ns : List Int, D.plains (iD ns) = true
  | [] => rfl
  | n :: ns => by
    show (D.plain (.int n) && D.plains (iD ns)) = true
    rw [plains_i ns]
    rfl
theorem pys_i : ∀ ns : List Int, D.pys (iD ns) = ns.map PyData.int
  | [] => rfl
  | n :: ns => by
    show D.py (.int n) :: D.pys (iD ns) = _
    rw [pys_i ns]
    rfl
theorem v_neS (x y : Str) : neS (.str x) (.str y) = ok (.bl (!decide (x = y))) := rfl
theorem v_eqS (x y : Str) : eqS (.str x) (.str y) = ok (.bl (decide (x = y))) := rfl
theorem lay_i : ∀ ns : List Int, PyData.canLayAll0 (ns.map PyData.int) = true
  | [] => rfl
  | n :: ns => by
    show (PyData.canLay0 (.int n) && PyData.canLayAll0 (ns.map PyData.int)) = true
    rw [lay_i ns]
    rfl
theorem depth_i : ∀ ns : List Int, PyData.depthAll (ns.map PyData.int) = 0
  | [] => rfl
  | n :: ns => by
    show max (PyData.depth (.int n)) (PyData.depthAll (ns.map PyData.int)) = 0
    rw [depth_i ns]
    rfl
theorem shaped_i (ns : List Int) : SeqAt.shaped (.list (ns.map PyData.int)) = true := by
  unfold SeqAt.shaped
  rw [PyData.canLay0, lay_i, PyData.depth, depth_i]
  rfl
theorem any_i (k : Int) : ∀ ns : List Int, ((ns.map PyData.int).any fun z => PyData.eqv z (.int k)) = decide (k ∈ ns)
  | [] => rfl
  | n :: ns => by
    rw [List.map_cons, List.any_cons, any_i k ns]
    show ((n == k) || decide (k ∈ ns)) = _
    by_cases h : n = k
    · subst h
      simp
    · have h2 : ¬ k = n := fun e => h e.symm
      have h3 : (n == k) = false := beq_false_of_ne h
      rw [h3]
      simp [h2]
theorem v_ninL (k : Int) (ns : List Int) : ninD (.int k) (.lst (iD ns)) = ok (.bl (!decide (k ∈ ns))) := by
  unfold ninD
  dsimp only
  rw [plains_i, pys_i, shaped_i, D.py, any_i]
  rfl
theorem eqvAll_i : ∀ ps qs : List Int, PyData.eqvAll (ps.map PyData.int) (qs.map PyData.int) = decide (ps = qs)
  | [], [] => rfl
  | [], _ :: _ => rfl
  | _ :: _, [] => rfl
  | p :: ps, q :: qs => by
    show ((p == q) && PyData.eqvAll (ps.map PyData.int) (qs.map PyData.int)) = _
    rw [eqvAll_i ps qs, Bool.eq_iff_iff]
    simp
/-! ### texts of pairs of ints -/
/-! ### loops -/
theorem while_end {c : S → M (Bool × S)} {F : S → M Out} {s s1 : S} (h : c s = ok (false, s1)) : sWhile c F s = ok (.nx s1) := by
  refine sWhile_of (n := 1) ?_
  rw [whileN, h, bd_ok']
  rfl
theorem while_step {c : S → M (Bool × S)} {F : S → M Out} {s s1 s2 : S} {o : Out} (h : c s = ok (true, s1)) (h2 : F s1 = ok (.nx s2)) (h3 : sWhile c F s2 = ok o) : sWhile c F s = ok o := by
  rcases of_sWhile h3 with e | ⟨n, o2, e, hn⟩
  · cases e
  · cases e
    refine sWhile_of (n := n + 1) ?_
    rw [whileN, h, bd_ok']
    show bd (F s1) _ = _
    rw [h2, bd_ok']
    exact hn
theorem while_go {c : S → M (Bool × S)} {F : S → M Out} {s s2 : S} {o : Out} (h : c s = ok (true, s)) (h2 : F s = ok (.nx s2)) (h3 : sWhile c F s2 = ok o) : sWhile c F s = ok o := while_step h h2 h3
theorem forL_cons {T : D → S → M S} {F : S → M Out} {d : D} {ds : List D} {s s1 s2 : S} (h1 : T d s = ok s1) (h2 : F s1 = ok (.nx s2)) : forL T F (d :: ds) s = forL T F ds s2 := by
  rw [forL, h1, bd_ok', h2, bd_ok']
/-- a loop by an invariant -/
theorem forL_inv {T : D → S → M S} {F : S → M Out} (P : Nat → S → Prop) : ∀ (ds : List D) (k : Nat) (s : S), P k s → (∀ i d s, ds[i]? = some d → P (k + i) s → ∃ s1 s2, T d s = ok s1 ∧ F s1 = ok (.nx s2) ∧ P (k + i + 1) s2) → ∃ s', forL T F ds s = ok (.nx s') ∧ P (k + ds.length) s'
  | [], k, s, h, _ => ⟨s, rfl, h⟩
  | d :: ds, k, s, h, step => by
    obtain ⟨s1, s2, h1, h2, h3⟩ := step 0 d s rfl h
    obtain ⟨s', e, p⟩ := forL_inv P ds (k + 1) s2 h3 fun i d' s' e q => by
      have := step (i + 1) d' s' (by simpa using e) (by rw [show k + (i + 1) = k + 1 + i by omega]; exact q)
      rw [show k + (i + 1) + 1 = k + 1 + i + 1 by omega] at this
      exact this
    refine ⟨s', by rw [forL_cons h1 h2]; exact e, ?_⟩
    rw [List.length_cons, show k + (ds.length + 1) = k + 1 + ds.length by omega]
    exact p
end Dt
namespace Dt
open L2 PySem PySem.Spec PyProof.Rows
/-! ### texts of nested lists of ints, bools, None -/
mutual
def D.rok : D → Bool
  | .non => true
  | .bl _ => true
  | .int i => decide
        (i.natAbs.log2 < 1920)
  | .lst xs => D.roks xs
  | .tup xs => D.roks xs
  | _ => false
def D.roks : List D → Bool
  | [] => true
  | x :: xs => D.rok x && D.roks xs
end
mutual
def D.blk : D → Nat
  | .lst xs => D.blks xs
  | .tup xs => D.blks xs
  | _ => 0
def D.blks : List D → Nat
  | [] => 0
  | x :: xs => D.blk x + 1 + D.blks xs
end
mutual
def D.dep : D → Nat
  | .lst xs => D.deps xs + 1
  | .tup xs => D.deps xs + 1
  | _ => 0
def D.deps : List D → Nat
  | [] => 0
  | x :: xs => max (D.dep x) (D.deps xs)
end
mutual
theorem rok_all : ∀ d : D, d.rok = true → d.plain = true ∧ d.py.showable = true ∧ PyData.leavesShort 1921 d.py = true ∧ d.py.bulk = d.blk ∧ d.py.depth = d.dep
  | .non, _ => ⟨rfl, rfl, rfl, rfl, rfl⟩
  | .bl _, _ => ⟨rfl, rfl, rfl, rfl, rfl⟩
  | .int i, h => by
    have h3 : i.natAbs.log2 < 1920 := of_decide_eq_true h
    refine ⟨rfl, ?_, ?_, rfl, rfl⟩
    · show decide (i.natAbs.log2 < 1920) = true
      exact h
    · show decide ((PyData.shown (.int i)).length ≤ 1921) = true
      exact decide_eq_true (by rw [PyData.shown]; exact PyProof.Rows.int_text_len_1921 h3)
  | .str _, h => by cases h
  | .lst xs, h => by
    obtain ⟨h1, h2, h3, h4, h5⟩ := roks_all xs h
    rw [D.plain, D.py]
    refine ⟨h1, h2, h3, ?_, ?_⟩
    · rw [PyData.bulk, h4, D.blk]
    · rw [PyData.depth, h5, D.dep]
  | .tup xs, h => by
    obtain ⟨h1, h2, h3, h4, h5⟩ := roks_all xs h
    rw [D.plain, D.py]
    refine ⟨h1, h2, h3, ?_, ?_⟩
    · rw [PyData.bulk, h4, D.blk]
    · rw [PyData.depth, h5, D.dep]
  | .obj _ _, h => by cases h
  | .dic _ _, h => by cases h
theorem roks_all : ∀ ds : List D, D.roks ds = true → D.plains ds = true ∧ PyData.showableAll (D.pys ds) = true ∧ PyData.leavesShortAll 1921 (D.pys ds) = true ∧ PyData.bulkAll (D.pys ds) = D.blks ds ∧ PyData.depthAll (D.pys ds) = D.deps ds
  | [], _ => ⟨rfl, rfl, rfl, rfl, rfl⟩
  | d :: ds, h => by
    rw [D.roks] at h
    obtain ⟨ha, hb⟩ := Bool.and_eq_true_iff.mp h
    obtain ⟨a1, a2, a3, a4, a5⟩ := rok_all d ha
    obtain ⟨b1, b2, b3, b4, b5⟩ := roks_all ds hb
    rw [D.plains, D.pys]
    refine ⟨by rw [a1, b1]; rfl, ?_, ?_, ?_, ?_⟩
    · rw [PyData.showableAll, a2, b2]; rfl
    · rw [PyData.leavesShortAll, a3, b3]; rfl
    · rw [PyData.bulkAll, a4, b4, D.blks]
    · rw [PyData.depthAll, a5, b5, D.deps]
end
theorem repr_lst {xs : List D} (h : D.roks xs = true) (hb : D.blks xs ≤ 8000) (hd : D.deps xs ≤ 59) : reprN [.lst xs] = ok (.str (D.py (.lst xs)).shown) := by
  obtain ⟨h1, h2, h3, h4, h5⟩ := roks_all xs h
  have h6 := PyData.shown_le_bulk 1921 (by decide) (.list (D.pys xs)) h3
  rw [PyData.bulk, h4] at h6
  unfold reprN
  dsimp only
  rw [if_pos]
  rw [D.py]
  refine ⟨h1, h2, ?_, ?_⟩
  · rw [PyData.depth, h5]
    omega
  · have : (1921 + 2) * D.blks xs ≤ 1923 * 8000 := Nat.mul_le_mul (by omega) hb
    show _ ≤ 2 ^ 24
    omega
/-! ### comprehensions -/
end Dt
namespace Dt
open L2 PySem PySem.Spec PyProof.Rows
/-! ### instances: their fields -/
/-- the j-th field of an instance of the class c -/
def fldD (c : Str) (j : Nat) : D → M D := fun d => match d with
  | .obj c' ds => if c' = c then (match ds[j]? with | some d => ok d | none => none) else none
  | _ => none
def dFld (c : Str) (j : Nat) (f : S → M (D × S)) : S → M (D × S) := fun s => bd (f s) fun p => bd (fldD c j p.1) fun d => ok (d, p.2)
def dOwnFld (i : Nat) (c : Str) (j : Nat) : S → M (D × S) := fun s => match ownD s[i]? with
  | some d => bd (fldD c j d) fun r => ok (r, s)
  | none => none
def setF (ds : List D) (j : Nat) (d : D) : List D := if j < ds.length then ds.set j d else ds ++ [d]
def sFldPut (i : Nat) (c : Str) (j : Nat) (f : S → M (D × S)) : S → M Out := fun s => bd (f s) fun p => match ownD p.2[i]? with
  | some (.obj c' ds) => if c' = c ∧ j ≤ ds.length ∧ ds.length < 1000 then ok (.nx (putD p.2 i (.obj c (setF ds j p.1)))) else none
  | _ => none
/-- what is known of a class -/
structure ClsD (K : PySem.W.Frag) (cl : Cl) (c : Str) (C : Addr) (names : List Str) : Prop where
  at_ : cl c = some (C, names)
  cls : Cls K C
  no : ∀ f ∈ names, NoAttr K C f
  nd : names.Nodup
theorem lookup_at {α β : Type} [BEq α] [LawfulBEq α] : ∀ (fs : List (α × β)) (j : Nat) (f : α) (v : β), (fs.map (·.1)).Nodup → fs[j]? = some (f, v) → fs.lookup f = some v
  | [], j, f, v, _, e => by simp at e
  | (g, x) :: r, 0, f, v, _, e => by
    simp at e
    obtain ⟨rfl, rfl⟩ := e
    simp [List.lookup]
  | (g, x) :: r, j + 1, f, v, n, e => by
    rw [List.map_cons] at n
    obtain ⟨n1, n2⟩ := List.nodup_cons.mp n
    have e' : r[j]? = some (f, v) := by simpa using e
    have hm : f ∈ r.map (·.1) := List.mem_map.mpr ⟨_, List.mem_of_getElem? e', rfl⟩
    have hne : (f == g) = false := beq_eq_false_iff_ne.mpr fun z => n1 (by rw [← z]; exact hm)
    rw [List.lookup, hne]
    exact lookup_at r j f v n2 e'
theorem putF_at {f : Str} {v : V} : ∀ (fs : List (Str × V)) (j : Nat) (u : V), (fs.map (·.1)).Nodup → fs[j]? = some (f, u) → putF f v fs = fs.set j (f, v)
  | [], j, u, _, e => by simp at e
  | (g, x) :: r, 0, u, _, e => by
    simp at e
    obtain ⟨rfl, rfl⟩ := e
    simp [putF]
  | (g, x) :: r, j + 1, u, n, e => by
    rw [List.map_cons] at n
    obtain ⟨n1, n2⟩ := List.nodup_cons.mp n
    have e' : r[j]? = some (f, u) := by simpa using e
    have hm : f ∈ r.map (·.1) := List.mem_map.mpr ⟨_, List.mem_of_getElem? e', rfl⟩
    have hne : g ≠ f := fun z => n1 (by rw [z]; exact hm)
    rw [putF, if_neg hne, putF_at r j u n2 e', List.set_cons_succ]
theorem putF_end {f : Str} {v : V} : ∀ (fs : List (Str × V)), f ∉ fs.map (·.1) → putF f v fs = fs ++ [(f, v)]
  | [], _ => rfl
  | (g, x) :: r, h => by
    have hne : g ≠ f := fun z => h (by simp [z])
    rw [putF, if_neg hne, putF_end r (fun z => h (by simp at z ⊢; exact .inr z)), List.cons_append]
section
variable {K : PySem.W.Frag} {cl : Cl} {wx : WX} {H : Hp} {c : Str} {C : Addr} {names : List Str} {fvs : List (Str × V)} {ds : List D} {j : Nat} {f : Str} {d : D}
theorem fvs_len (n : fvs.map (·.1) = names.take ds.length) (r : RpA K cl H (fvs.map (·.2)) ds) : fvs.length = ds.length := by
  have := r.len
  simpa using this
theorem fvs_nd (hn : names.Nodup) (n : fvs.map (·.1) = names.take ds.length) : (fvs.map (·.1)).Nodup := by
  rw [n]
  exact (List.take_sublist _ _).nodup hn
theorem fvs_at (hn : names.Nodup) (n : fvs.map (·.1) = names.take ds.length) (r : RpA K cl H (fvs.map (·.2)) ds) (hj : names[j]? = some f) (hd : ds[j]? = some d) : ∃ v, fvs[j]? = some (f, v) ∧ fvs.lookup f = some v ∧ Rp K cl H v d := by
  have hlt : j < ds.length := (List.getElem?_eq_some_iff.mp hd).1
  obtain ⟨v, h1, h2⟩ := r.get j hd
  have h3 : (fvs.map (·.1))[j]? = some f := by
    rw [n, List.getElem?_take_of_lt hlt]
    exact hj
  rw [List.getElem?_map] at h1 h3
  cases q : fvs[j]? with
  | none => rw [q] at h1; cases h1
  | some p =>
    rw [q] at h1 h3
    simp at h1 h3
    obtain ⟨p1, p2⟩ := p
    dsimp only at h1 h3
    subst h1 h3
    exact ⟨_, rfl, lookup_at fvs j _ _ (fvs_nd hn n) q, h2⟩
/-- a field is written -/
theorem fvs_put {v : V} (hn : names.Nodup) (n : fvs.map (·.1) = names.take ds.length) (r : RpA K cl H (fvs.map (·.2)) ds) (hj : names[j]? = some f) (hl : j ≤ ds.length) (rv : Rp K cl H v d) :
    (putF f v fvs).map (·.1) = names.take (setF ds j d).length ∧ RpA K cl H ((putF f v fvs).map (·.2)) (setF ds j d) := by
  have len := fvs_len n r
  unfold setF
  by_cases hlt : j < ds.length
  · obtain ⟨u, h1, _, _⟩ := fvs_at hn n r hj (List.getElem?_eq_getElem hlt)
    rw [if_pos hlt, putF_at fvs j u (fvs_nd hn n) h1, List.map_set, List.map_set, List.length_set]
    refine ⟨?_, r.set j rv⟩
    rw [← n]
    have h3 : (fvs.map (·.1))[j]? = some f := by rw [List.getElem?_map, h1]; rfl
    have hlt' : j < (fvs.map (·.1)).length := (List.getElem?_eq_some_iff.mp h3).1
    have := (List.getElem?_eq_some_iff.mp h3).2
    conv => lhs; rw [← this]
    exact List.set_getElem_self hlt'
  · have hj2 : j = ds.length := by omega
    subst hj2
    have hni : f ∉ fvs.map (·.1) := by
      rw [n]
      intro z
      obtain ⟨i, hi, e⟩ := List.mem_iff_getElem.mp z
      have hi' : i < ds.length := by
        have := hi
        rw [List.length_take] at this
        omega
      rw [List.getElem_take] at e
      have h4 : names[i]? = some f := by
        rw [← e]
        exact List.getElem?_eq_getElem _
      have hi2 := (List.getElem?_eq_some_iff.mp h4).1
      have hj3 := (List.getElem?_eq_some_iff.mp hj).1
      have hinj := (List.getElem?_inj hi2 hn).mp (h4.trans hj.symm)
      omega
    rw [if_neg hlt, putF_end fvs hni, List.map_append, List.map_append, List.length_append, n]
    refine ⟨?_, r.append (.cons rv .nil)⟩
    show names.take ds.length ++ [f] = names.take (ds.length + 1)
    rw [List.take_succ, hj]
    rfl
end
section
variable {X : Cx} {cl : Cl} {wx : WX} {pos : Pos} {w : Wf} {L : List Addr} {sd : S} {σ : L2.St} {H : Hp} {fe : S → M (D × S)} {e : Expr} {c f : Str} {C : Addr} {names : List Str} {j : Nat}
/-- e.f -/
theorem d_fld (k : ClsD X.K cl c C names) (he : PE X e (TEof X.K cl wx fe)) (hj : names[j]? = some f := by rfl) (hab : attributeBase e f X.env (eval e X.env) = eval e X.env := by rfl) : PE X (.Attribute e f pos) (TEof X.K cl wx (dFld c j fe)) := by
  refine iE (pe_fld he hab) ?_
  rintro σ H Q ⟨w, L, sd, W, h0⟩
  refine ⟨w, L, sd, W, PostE.bd botE h0 fun r s1 h v H1 st1 W1 rr => ?_⟩
  cases r with
  | obj c' ds =>
    dsimp only [fldD] at h
    split at h
    · next ec =>
      subst ec
      split at h
      · next d hd =>
        cases rr with
        | obj k0 e0 n0 r0 =>
          rw [k.at_] at k0
          cases k0
          obtain ⟨u, h1, h2, h3⟩ := fvs_at k.nd n0 r0 hj hd
          exact ⟨_, _, _, _, u, rfl, (hide_some.mp e0).2, k.cls, k.no f (List.mem_of_getElem? hj), h2, h u H1 st1 W1 h3⟩
      · exact h.elim
    · exact h.elim
  | _ => exact h.elim
/-- self.f = e -/
theorem s_fldPut (i : Nat) {x : Str} {p0 pos' : Pos} (k : ClsD X.K cl c C names) (he : PE X e (TEof X.K cl wx fe)) (hj : names[j]? = some f := by rfl) (hN : X.N[i]? = some x := by rfl)
    (hv : Vis X.env.scope x := by first | exact Or.inl rfl | exact Or.inr (Or.inl rfl) | exact Or.inr (Or.inr rfl)) (hd : (x == ("__debug__" : Str)) = false := by decide) (hcd : (x == ("__classdict__" : Str)) = false := by decide)
    (hs : swapsWith e (some (.Attribute (.Name x p0) f pos')) pos.line X.env = pure false := by rfl) : PS X (.Assign [.Attribute (.Name x p0) f pos'] e pos) (TSof X.K cl wx [] (sFldPut i c j fe)) := by
  refine iS (ps_fld (pe_var hN hv hd hcd) he hs) ?_
  rintro E σ H ⟨w, L, sd, W, h⟩
  refine ⟨w, L, sd, W, PostE.bd botS h fun r s1 h v H1 st1 W1 rr => ?_⟩
  dsimp only at h
  split at h
  · next c' ds ed =>
    obtain ⟨a, h1, h2, h3⟩ := W1.atD ed
    refine ⟨.ref a, h1, ?_⟩
    split at h
    · next hc =>
      obtain ⟨rfl, hl, hz⟩ := hc
      have hal := h3.some
      obtain ⟨C0, ns0, dx, fvs, k0, e0, n0, r0⟩ := h3
      rw [k.at_] at k0
      cases k0
      obtain ⟨g1, g2⟩ := fvs_put (d := r) k.nd n0 r0 hj hl rr
      have hin : a ∈ L ++ w.O0 := by
        rcases h2 with z | z
        · (exact List.mem_append_left _ z)
        · exact List.mem_append_right _ (W.sub a z.2)
      obtain ⟨W2, st2⟩ := W1.wrote (H' := upd H1 a (.ins C dx (putF f v fvs))) (d1 := .obj c' (setF ds j r)) ed h1 h2 hal (fun b o n q => by rw [upd_ne n]; exact q) ⟨C, names, dx, _, k.at_, upd_same, g1, by rw [hide_in hin]; exact g2⟩
      refine ⟨a, C, dx, fvs, rfl, e0, k.cls, k.no f (List.mem_of_getElem? hj), ?_, h L σ _ (st1.trans st2) W2 .refl⟩
      rw [fvs_len n0 r0]
      exact hz
    · exact h.elim
  · exact h.elim
end
end Dt
namespace Dt
open L2 PySem PySem.Spec PyProof.Rows
/-! ### C(..): a new instance -/
/-- the new instance is what the constructor has made of it -/
def bdM (m : M (D × D)) (s : S) : M (D × S) := match m with
  | some (.ok (.non, d)) => ok (d, s)
  | some (.ex e [.val _]) => some (.ex e s)
  | _ => none
theorem bdM_ok (d : D) (s : S) : bdM (ok (.non, d)) s = ok (d, s) := by
  have h : bdM (ok (.non, d)) s = ok (d, s) := rfl
  exact h
def tMakeX (C : Addr) (sp : Sp) (dvs : List V) (E : L2.St → XK) (t : TA) : TE := fun σ H Q => t σ H fun vs H1 => ∀ x dx, H1 x = none → H1 dx = none → dx ≠ x →
  sp (.ref x :: (vs ++ dvs)) (upd (upd H1 dx (.own x)) x (.ins C dx [])) (fun v H2 => v = .non ∧ Q (.ref x) H2) (E σ)
def dMake (c : Str) (n : Nat) (g : D → List D → M (D × D)) (dd : List D) (fr : S → M (List D × S)) : S → M (D × S) := fun s => bd (fr s) fun p =>
  if (p.1 ++ dd).length + 1 = n then bdM (g (.obj c []) (p.1 ++ dd)) p.2 else none
section
variable {X : Cx} {CX : CXT} {k n : Nat} {f C : Addr} {fd : FuncData} {ps : List Str} {sp : Sp} {dvs : List V} {ds : List Value} {dd : List D} {E : L2.St → XK} {x c : Str} {p pos : Pos} {e : Expr} {es : List Expr} {t : TA} {cl : Cl} {wx : WX} {fr : S → M (List D × S)} {g : D → List D → M (D × D)} {names : List Str}
theorem guards_make {A : Around} {vs : List Value} {kw : List (Str × Value)} (h : A.guards = some []) : (A.under (.builtin "type.__call__" ⟨vs, kw⟩)).guards = some [] := by
  show pushGuards (Code.guards (.builtin "type.__call__" ⟨vs, kw⟩)) A.guards = some []
  have e : Code.guards (.builtin "type.__call__" ⟨vs, kw⟩) = [] := by simp [Code.guards, Code.isGuard, guardIds]
  rw [e, h] <;> rfl
theorem run_makeG {E : XK} {pins : List (Addr × Obj)} {σ : L2.St} {H : Hp} {s : Shared} {Q : VK} {us : List Value} {kw : List (Str × Value)} {us2 : List Value} {vs2 : List V} (M : Mk X.K C f) (F : FnG X.prog X.w X.K X.mg X.base CX k f fd ps sp) (hgd : X.A.guards = some []) (hr : Room (k + 1) X.A) (hx : PassesAt CX X σ E) (I : Inv X pins σ H s)
    (hb : ∀ (s1 : Shared) (a : Addr), X.K.In s1.heap → BindsTo s1 fd ⟨.ref a :: us, kw⟩ (ps.zip (.ref a :: us2))) (r : Vals vs2 us2)
    (h : ∀ x dx, H x = none → H dx = none → dx ≠ x → sp (.ref x :: vs2) (upd (upd H dx (.own x)) x (.ins C dx [])) (fun v H2 => v = .non ∧ Q (.ref x) H2) E) :
    wpAny (model X.prog X.w) X.A (call (.ref C) us kw) (EP X pins σ Q) X.xe s := by
  have h1 := h (s.heap.objs.size + 1) s.heap.objs.size (I.hok.fresh (Nat.le_succ _)) (I.hok.fresh (Nat.le_refl _)) (Nat.ne_of_lt (Nat.lt_succ_self _))
  (have I2 := Inv.made (C := C) I)
  have r2 : Vals (V.ref (s.heap.objs.size + 1) :: vs2) (Value.ref (s.heap.objs.size + 1) :: us2) := .cons rfl r
  have go := F.go _ X.stack _ _ _ _ _ _ E (guards_make (vs := .ref C :: us) (kw := kw) hgd) (hr.make C us kw) (I2.env0.make C us kw) (hb _ _ I2.kIn) r2 h1
  refine wpAny_call (make_map (f := f) I.kIn M.makes M.init (beq_iff_eq.mp M.fn) (codeAny_mono go fun r s' hq => ?_))
  have q := ret_of hx I2 r s' hq
  match r, q with
  | .error e, q => exact q
  | .ok (.ret u), q =>
    obtain ⟨v, H', I3, rv, ev, q3⟩ := q
    subst ev
    (exact ⟨rv, ⟨V.ref (s.heap.objs.size + 1), H', I3, rfl, q3⟩⟩)
/-- C(e, ..) -/
theorem pe_makeG (M : Mk X.K C f) (F : FnG X.prog X.w X.K X.mg X.base CX k f fd ps sp) (hgd : X.A.guards = some []) (hr : Room (k + 1) X.A) (hm : X.mg x = some (.ref C)) (hb : Binds X.K fd ps ds) (hd : Vals dvs ds) (hx : ∀ σ, PassesAt CX X σ (E σ))
    (ha : PA X (e :: es) t) (hg : Gl X x := by rfl) (hdb : (x == ("__debug__" : Str)) = false := by decide) (he : starEach (e :: es) X.env = (false, eval e X.env) :: starEach es X.env := by rfl) (hpl : (backTo pos (starEach es X.env)).any (·.1) = false := by rfl) :
    PE X (.Call (.Name x p) (e :: es) [] pos) (tMakeX C sp dvs E t) := by
  constructor
  intro pins s σ H Q I h
  refine wpAny_Call_Name_kw (ld_glob I hg hm (PySem.W.callWith_K (h₀ := X.base) I.ok.mod.kin M.kp (thn (ha.run pos pins s σ H _ I h) ?_) he hpl) hdb)
  rintro us s1 ⟨vs, H1, I1, r, q⟩
  have hl : ∀ a : Addr, ((.ref a :: us) ++ ds).length = ps.length := fun a => by
    have h2 := q (s1.heap.objs.size + 1) s1.heap.objs.size (I1.hok.fresh (Nat.le_succ _)) (I1.hok.fresh (Nat.le_refl _)) (Nat.ne_of_lt (Nat.lt_succ_self _))
    have e1 := F.len _ _ _ _ h2
    have e2 := (r.append hd).length
    rw [List.length_cons] at e1
    rw [List.cons_append, List.length_cons]
    omega
  exact ⟨I1.kIn, run_makeG (us2 := us ++ ds) (vs2 := vs ++ dvs) M F hgd hr (hx σ) I1 (fun s2 a kin => hb s2 (.ref a :: us) kin (hl a)) (r.append hd) q⟩
/-- what the constructor's promise asks, by the data -/
theorem make_readG (kc : ClsD X.K cl c C names) (hdd : ∀ H : Hp, RpA X.K cl H dvs dd) : ∀ σ H Q, TFof X.K cl wx (dMake c n g dd fr) σ H Q → tMakeX C (spI X.K cl n g) dvs (WE wx) (TAof X.K cl wx fr) σ H Q := by
  rintro σ H Q ⟨w, L, sd, W, h⟩
  refine ⟨w, L, sd, W, PostA.bd botF h fun rs s1 h vs H1 st1 W1 rr => ?_⟩
  intro y dx ny ndx hne
  dsimp only at h
  split at h
  · next c1 =>
    have rr2 := rr.append (hdd (hide (L ++ w.O0) H1))
    have nyO : y ∉ L ++ w.O0 := W1.new_ne ny
    have ndO : dx ∉ L ++ w.O0 := W1.new_ne ndx
    have sm1 : Same H1 (upd (upd H1 dx (.own y)) y (.ins C dx [])) := fun b o z => by
      rw [upd_ne (ne_of_none z ny), upd_ne (ne_of_none z ndx)]
      exact z
    have sm2 : Same (hide (L ++ w.O0) H1) (hide (y :: (L ++ w.O0)) (upd (upd H1 dx (.own y)) y (.ins C dx []))) := fun b o z => by
      obtain ⟨z1, z2⟩ := hide_some.mp z
      refine hide_some.mpr ⟨fun q => ?_, sm1 b o z2⟩
      rcases List.mem_cons.mp q with q | q
      · rw [q, ny] at z2
        cases z2
      · exact z1 q
    refine ⟨?_, y :: (L ++ w.O0), y, .obj c [], vs ++ dvs, rs ++ dd, rfl, fun b hb => ?_, List.mem_cons_self, ⟨C, names, dx, [], kc.at_, upd_same, by simp, .nil⟩, rr2.mono sm2, ?_⟩
    · have := rr2.len
      simp only [List.length_cons] at this ⊢
      omega
    · (rcases List.mem_cons.mp hb with rfl | hb)
      · rw [upd_same]; simp
      · cases q : H1 b with
        | none => exact absurd q (W1.alive b hb)
        | some o => rw [sm1 b o q]; simp
    · generalize g (.obj c []) (rs ++ dd) = mm at h
      match mm, h with
      | none, h => exact h.elim
      | some (.ex e []), h => exact h.elim
      | some (.ex e (.un :: _)), h => exact h.elim
      | some (.ex e (.own _ :: _)), h => exact h.elim
      | some (.ex e (.io _ :: _)), h => exact h.elim
      | some (.ex e (.val _ :: _ :: _)), h => exact h.elim
      | some (.ex e [.val d']), h =>
        intro cls d2 H' kp ho x
        have sm3 : Same H1 H' := fun b o z => kp b o (ne_of_none z ny) (sm1 b o z)
        exact h L σ H' cls d2 (W1.ext sm3) (x.mono (hide_sub fun a ha => List.mem_cons_of_mem _ ha))
      | some (.ok (.non, d')), h =>
        intro v H' kp ho rv
        cases rv
        refine ⟨rfl, ?_⟩
        have sm3 : Same H1 H' := fun b o z => kp b o (ne_of_none z ny) (sm1 b o z)
        have st2 : Step w L H1 (y :: L) H' := ⟨fun b o _ _ e => sm3 b o e, (Step.of_same (w := w) (L := L) sm3).alv, fun a ha => by
          (rcases List.mem_cons.mp ha with rfl | ha)
          · exact .inr ny
          · exact .inl ha⟩
        exact h y H' (st1.trans st2) nyO (W1.ext sm3) (W1.made sm3 ny ho.some) (ho.old fun b z => st1.old (by
          cases q : H1 b with
          | none => rfl
          | some o => rw [sm1 b o q] at z; cases z))
      | some (.ok (.bl _, d')), h => exact h.elim
      | some (.ok (.int _, d')), h => exact h.elim
      | some (.ok (.str _, d')), h => exact h.elim
      | some (.ok (.lst _, d')), h => exact h.elim
      | some (.ok (.tup _, d')), h => exact h.elim
      | some (.ok (.obj _ _, d')), h => exact h.elim
      | some (.ok (.dic _ _, d')), h => exact h.elim
  · exact h.elim
/-- C(e, ..) as data -/
theorem f_make (kc : ClsD X.K cl c C names) (M : Mk X.K C f) (F : FnG X.prog X.w X.K X.mg X.base (L2.CX X.prog X.w) k f fd ps (spI X.K cl n g)) (hgd : X.A.guards = some []) (hr : Room (k + 1) X.A) (hm : X.mg x = some (.ref C)) (hb : Binds X.K fd ps ds) (hd : Vals dvs ds) (hdd : ∀ H : Hp, RpA X.K cl H dvs dd)
    (ha : PA X (e :: es) (TAof X.K cl wx fr)) (hg : Gl X x := by rfl) (hdb : (x == ("__debug__" : Str)) = false := by decide) (he : starEach (e :: es) X.env = (false, eval e X.env) :: starEach es X.env := by rfl) (hpl : (backTo pos (starEach es X.env)).any (·.1) = false := by rfl) (tk : Takes X wx := by first | assumption | exact takes_no) :
    PE X (.Call (.Name x p) (e :: es) [] pos) (TFof X.K cl wx (dMake c n g dd fr)) := iE (pe_makeG M F hgd hr hm hb hd (fun σ => passAt tk σ) ha hg hdb he hpl) (make_readG kc hdd)
end
/-! ### o.m(..), o.f of an instance that is a value -/
def dMeth (c m : Str) (n : Nat) (g : FnD) (dd : List D) (fo : S → M (D × S)) (fr : S → M (List D × S)) : S → M (D × S) := fun s => bd (fo s) fun o => match o.1 with
  | .obj c' _ => if c' = c then bd (fr o.2) fun p => if (p.1 ++ dd).length + 1 = n then bdC (g (o.1 :: (p.1 ++ dd))) p.2 fun r => ok (r, p.2) else none else none
  | _ => none
def dProp (c : Str) (g : FnD) (fo : S → M (D × S)) : S → M (D × S) := fun s => bd (fo s) fun o => match o.1 with
  | .obj c' _ => if c' = c then bd (nx (g [o.1])) fun r => ok (r, o.2) else none
  | _ => none
section
variable {X : Cx} {CX : CXT} {k n : Nat} {f C pa : Addr} {fd : FuncData} {ps : List Str} {sp : Sp} {dvs : List V} {ds : List Value} {dd : List D} {E : L2.St → XK} {m c : Str} {p pos apos : Pos} {e o : Expr} {es : List Expr} {ta : TE} {t : TA} {cl : Cl} {wx : WX} {fo : S → M (D × S)} {fr : S → M (List D × S)} {g : FnD} {names : List Str}
/-- o.f, a property -/
theorem pe_propG {E : XK} (he : PE X o ta) (c : Cls X.K C) (hp : PropOf X.K C m pa f) (F : FnG X.prog X.w X.K X.mg X.base CX k f fd ps sp) (hgd : X.A.guards = some []) (hr : Room (k + 1) X.A) (hb : Binds X.K fd ps []) (hx : Passes CX X.nox E)
    (hab : attributeBase o m X.env (eval o X.env) = eval o X.env := by rfl) : PE X (.Attribute o m pos) (tProp C sp [] E ta) := by
  constructor
  intro pins s σ H Q I h
  refine attr_of hab (thn (he.run pins s σ H _ I h) ?_)
  rintro u s1 ⟨x, H1, I1, rx, a, dx, fs, rfl, ea, q⟩
  (obtain rfl : u = Value.ref a := rx)
  obtain ⟨_, O, _, _, _, _⟩ := ins_get I1.hok ea
  obtain ⟨od, J, _⟩ := O.look
  (obtain ⟨rest, hrec⟩ := hp.rec_)
  have I2 := I1.tok (s1.toks + 1)
  have hl : ([Value.ref a] ++ []).length = ps.length := F.len _ _ _ _ q
  have hc
        : (PySem.W.clsIn X.K C).isSome = true := by
    (obtain ⟨cd, hc, _⟩ := PySem.W.any_some c.hd)
    rw [hc]; rfl
  refine PySem.W.get_bind I1.kIn J (PySem.W.plainGet_of (c.get m)).1 (PySem.W.findObj_data hc hp.at_ hp.get hp.tak) (PySem.W.plainGet_of (c.get m)).2 (wpAny_call (PySem.W.prop_get (s := { s1 with toks := s1.toks + 1 }) I1.kIn hrec ?_))
  refine codeAny_mono (F.go X.A.in1 X.stack { s1 with toks := s1.toks + 1 } H1 ⟨[.ref a], []⟩ [.ref a] [.ref a] Q E hgd hr.in1 I2.env0.in1 (hb _ [.ref a] I2.kIn hl) (.cons rfl .nil) q) fun r s' hq => ?_
  match r, hq with
  | .error er, hq => exact False.elim (hx pins σ H1 { s1 with toks := s1.toks + 1 } er s' (I2.wish _) hq)
  | .ok (.ret u), hq =>
    obtain ⟨v, H', I3, rv, q3⟩ := I2.after hq
    (show wpAny _ _ (handedOut u) _ _ _)
    (rw [PySem.W.handedOut_of (handed_of rv)])
    (exact wpAny_pure ⟨v, H', I3, rv, q3⟩)
  | .ok .next, hq => exact hq.elim
  | .ok .brk, hq => exact hq.elim
  | .ok .cont, hq => exact hq.elim
theorem PostE.finN {K : PySem.W.Frag} {w : Wf} {L : List Addr} {σ : L2.St} {H H2 : Hp} {Q : VK} {s2 : S} {mm : M D} {E : XK} (h : PostE K cl wx w L σ H Q (Dt.bd (nx mm) fun r => ok (r, s2))) (st : Step w L H L H2) (W : Wl K cl w L s2 σ H2) : FinD K cl (L ++ w.O0) H2 Q E mm := by
  match mm, h with
  | none, h => exact h.elim
  | some (.ex e s'), h => exact h.elim
  | some (.ok r), h => exact fun v H3 sm rp => h v H3 (st.trans (.of_same sm)) (W.ext sm) rp
theorem passN {X : Cx} : Passes (L2.CX X.prog X.w) X.nox E0 := fun _ _ _ _ _ _ _ ⟨_, _, _, _, _, _, _, _, _, _, _, _, z⟩ => z.elim
theorem prop_read (kc : ClsD X.K cl c C names) : ∀ σ H Q, TEof X.K cl wx (dProp c g fo) σ H Q → tProp C (spP X.K cl 1 g) [] E0 (TEof X.K cl wx fo) σ H Q := by
  rintro σ H Q ⟨w, L, sd, W, h0⟩
  refine ⟨w, L, sd, W, PostE.bd botE h0 fun r s1 h v H1 st1 W1 rr => ?_⟩
  cases r with
  | obj c' fs =>
    dsimp only at h
    split at h
    · next ec =>
      subst ec
      have rr0 := rr
      cases rr with
      | obj k0 e0 n0 r0 =>
        rw [kc.at_] at k0
        cases k0
        exact ⟨_, _, _, rfl, (hide_some.mp e0).2, rfl, L ++ w.O0, [.obj c' fs], W1.alive, .cons rr0 .nil, h.finN st1 W1⟩
    · exact h.elim
  | _ => exact h.elim
theorem d_prop (kc : ClsD X.K cl c C names) (hp : PropOf X.K C m pa f) (F : FnG X.prog X.w X.K X.mg X.base (L2.CX X.prog X.w) k f fd ps (spP X.K cl 1 g)) (hgd : X.A.guards = some []) (hr : Room (k + 1) X.A) (hb : Binds X.K fd ps []) (he : PE X o (TEof X.K cl wx fo))
    (hab : attributeBase o m X.env (eval o X.env) = eval o X.env := by rfl) : PE X (.Attribute o m pos) (TEof X.K cl wx (dProp c g fo)) := iE (pe_propG he kc.cls hp F hgd hr hb passN hab) (prop_read kc)
end
end Dt
namespace Dt
open L2 PySem PySem.Spec PyProof.Rows
/-! ### a op b op c -/
def dChain (g g' : Op2) (fa fb fc : S → M (D × S)) : S → M (D × S) := fun s => bd (fa s) fun p => bd (fb p.2) fun q => bd (g p.1 q.1) fun r => match r with
  | .bl true => bd (fc q.2) fun t => bd (g' q.1 t.1) fun z => ok (z, t.2)
  | .bl false => ok (.bl false, q.2)
  | _ => none
section
variable {X : Cx} {K : PySem.W.Frag} {cl : Cl} {wx : WX} {pos : Pos} {a b c : Expr} {fa fb fc : S → M (D × S)} {g g' : Op2} {op op' : CmpOp}
end
/-! ### built-ins that make a list -/
section
variable {X : Cx} {K : PySem.W.Frag} {cl : Cl} {wx : WX} {pos p : Pos} {e : Expr} {es : List Expr} {fr : S → M (List D × S)} {g : OpN} {x : Str} {id T : String}
end
section
variable {X : Cx} {K : PySem.W.Frag} {cl : Cl} {wx : WX}
end
/-! ### sorted, ints -/
section
variable {X : Cx} {cl : Cl} {wx : WX}
end
end Dt
namespace Dt
open L2 PySem PySem.Spec PyProof.Rows
/-! ### own dicts -/
def kD : D → Option Key
  | .int i => some (.inl i)
  | .str x => some (.inr x)
  | _ => none
def hasK (k : Key) (ks : List Key) : Bool := ks.any fun k0 => decide (k0 = k)
def repK (k : Key) (d : D) : List Key → List D → List D
  | k0 :: ks, d0 :: ds => (if k0 = k then d else d0) :: repK k d ks ds
  | _, _ => []
def putKs (k : Key) (d : D) (ks : List Key) (ds : List D) : List Key × List D := if hasK k ks = true then (ks, repK k d ks ds) else (ks ++ [k], ds ++ [d])
def dDic0 : S → M (D × S) := fun s => ok (.dic [] [], s)
def sDPut (i : Nat) (fk f : S → M (D × S)) : S → M Out := fun s => bd (f s) fun p => match ownD p.2[i]? with
  | some (.dic _ _) => bd (fk p.2) fun q => match ownD q.2[i]?, kD q.1 with
    | some (.dic ks ds), some k => if ks.length < sizeLine then ok (.nx (putD q.2 i (.dic (putKs k p.1 ks ds).1 (putKs k p.1 ks ds).2))) else none
    | _, _ => none
  | _ => none
def dInDic (i : Nat) (fk : S → M (D × S)) : S → M (D × S) := fun s => bd (fk s) fun q => match ownD q.2[i]?, kD q.1 with
  | some (.dic ks _), some k => ok (.bl (hasK k ks), q.2)
  | _, _ => none
def dNinDic (i : Nat) (fk : S → M (D × S)) : S → M (D × S) := fun s => bd (fk s) fun q => match ownD q.2[i]?, kD q.1 with
  | some (.dic ks _), some k => ok (.bl (!hasK k ks), q.2)
  | _, _ => none
section
variable {X : Cx} {K : PySem.W.Frag} {cl : Cl} {wx : WX} {pos : Pos} {w : Wf} {L : List Addr} {sd : S} {σ : L2.St} {H : Hp} {f fk : S → M (D × S)} {e ke : Expr}
end
section
variable {X : Cx} {cl : Cl} {wx : WX} {pos : Pos} {w : Wf} {L : List Addr} {sd : S} {σ : L2.St} {H : Hp} {f fk : S → M (D × S)} {e ke : Expr}
end
/-! ### for over an own list, which stays as long as it is -/
section
variable {X : Cx} {cl : Cl} {wx : WX} {pos : Pos} {body : List Stmt} {ts us : List Nat} {F : S → M Out} {T : D → S → M S} {tg : Expr}
end
end Dt
namespace Dt
open L2 PySem PySem.Spec PyProof.Rows
/-! ### the head's facts with defs of classes -/
/-- where a def stands: in the module, in a class, behind a property, behind a staticmethod or classmethod -/
inductive At where
  | fn (x : Str)
  | meth (C m : Str)
  | prop (C m : Str)
  | stat (C m : Str)
  | clsm (C m : Str)
def behind (K : PySem.W.Frag) (a : Addr) (ty : String) : Addr := match PySem.W.recIn K a ty with
  | some (.ref g :: _) => g
  | _ => 0
def At.adr (K : PySem.W.Frag) : At → Addr
  | .fn x => He.ga K x
  | .meth C m => He.ma K (He.ga K C) m
  | .prop C m => behind K (He.ma K (He.ga K C) m) "property"
  | .stat C m => behind K (He.ma K (He.ga K C) m) "staticmethod"
  | .clsm C m => behind K (He.ma K (He.ga K C) m) "classmethod"
def isBehind (K : PySem.W.Frag) (a : Addr) (ty : String) : Bool := match PySem.W.recIn K a ty with
  | some (.ref _ :: _) => true
  | _ => false
theorem behind_ok {K : PySem.W.Frag} {a : Addr} {ty : String} (h : isBehind K a ty = true) : ∃ rest, PySem.W.recIn K a ty = some (.ref (behind K a ty) :: rest) := by
  unfold isBehind at h
  split at h
  · next g rest e =>
    refine ⟨rest, ?_⟩
    unfold behind
    rw [e]
  · cases h
def At.ok (K : PySem.W.Frag) : At → Bool
  | .fn x => He.eqO (PySem.W.nsIn K mainGlobals x) (some (some (.ref (He.ga K x))))
  | .meth C m => (He.Fa.meth C m).ok K
  | .prop C m => He.eqO (PySem.W.findIn K (.ref (He.ga K C)) m) (some (some (.ref (He.ma K (He.ga K C) m)))) && (He.eqO (PySem.W.specialIn K (.ref (He.ma K (He.ga K C) m)) "__get__") (some (some (.builtin "property.__get__"))) &&
      (decide (PySem.W.takesIn K (.ref (He.ma K (He.ga K C) m)) = some true) && isBehind K (He.ma K (He.ga K C) m) "property"))
  | .stat C m => isBehind K (He.ma K (He.ga K C) m) "staticmethod"
  | .clsm C m => isBehind K (He.ma K (He.ga K C) m) "classmethod"
theorem prop_ok {K : PySem.W.Frag} {C m : Str} (h : (At.prop C m).ok K = true) : PropOf K (He.ga K C) m (He.ma K (He.ga K C) m) ((At.prop C m).adr K) := by
  obtain ⟨h1, h⟩ := He.ba h
  obtain ⟨h2, h⟩ := He.ba h
  obtain ⟨h3, h4⟩ := He.ba h
  exact ⟨He.eqO_ok h1, He.eqO_ok h2, of_decide_eq_true h3, behind_ok h4⟩
/-- one def -/
structure DefC where
  at_ : At
  name : Str
  qual : Str
  params : Arguments
  body : List Stmt
  scope : Scope
  dfl : List He.Dv := []
  kwd : List (Str × He.Dv) := []
def DefC.adr (K : PySem.W.Frag) (d : DefC) : Addr := d.at_.adr K
def DefC.dvs (K : PySem.W.Frag) (d : DefC) : List V := d.dfl.map (He.Dv.v K)
def DefC.kws (K : PySem.W.Frag) (d : DefC) : List (Str × V) := d.kwd.map fun q => (q.1, q.2.v K)
/-- what is read of a def's function object -/
def seen (K : PySem.W.Frag) (a : Addr) : He.FnW := (K.lookup a).bind fun o => match o.data with
  | .func fd => some (fd.name, fd.qualname, fd.params, fd.body, fd.scope, fd.globals, fd.closure, fd.builtins)
  | _ => none
def DefC.val (d : DefC) : He.FnW := some (d.name, d.qual, d.params, .stmts d.body, d.scope, mainGlobals, [], builtinsNs)
def DefC.ok (K : PySem.W.Frag) (d : DefC) : Bool := d.at_.ok K && (PySem.W.keepIn K (.ref (d.adr K)) && (match K.lookup (d.adr K) with
  | some o =>
        (match o.data with
    | .func fd => PySem.W.codeIn K fd.code d.qual && (He.dflB K fd.defaults (d.dvs K) && He.kwdB K fd.kwdefaults (d.kws K))
    | _ => false)
  | none => false))
theorem DefC.funD {K : PySem.W.Frag} {d : DefC} (e : seen K (d.adr K) = d.val) (c : d.ok K = true) : ∃ fd, FunD K d.name d.qual d.params d.body d.scope (d.dvs K) (d.kws K) (d.adr K) fd := by
  obtain ⟨_, c⟩ := He.ba c
  obtain ⟨kp, c⟩ := He.ba c
  unfold seen at e
  cases q : K.lookup (d.adr K) with
  | none => rw [q] at c; cases c
  | some o =>
    rw [q] at c e
    obtain ⟨oc, od, dt, osl⟩ := o
    cases dt with
    | func fd =>
      obtain ⟨a1, a2, a3, a4, a5, a6, a7, b1, b2, b3, b4, b5, b6, b7, a8⟩ := fd
      have e : (some (a1, a2, a3, a4, a5, a6, a7, a8) : He.FnW) = some (d.name, d.qual, d.params, .stmts d.body, d.scope, mainGlobals, [], builtinsNs) := e
      injection e with e
      simp only [Prod.mk.injEq] at e
      obtain ⟨rfl, rfl, rfl, rfl, rfl, rfl, rfl, rfl⟩ := e
      obtain ⟨k1, k⟩ := He.ba c
      obtain ⟨k2, k3⟩ := He.ba k
      exact ⟨_, ⟨oc, od, b1, b2, b3, b4, b5, b6, b7, osl, rfl, q, k1, He.dflB_ok k2, He.kwdB_ok k3⟩, kp⟩
    | _ => cases c
abbrev AlC : Type := Bool × List He.FnW
def obsC (fa : List He.Fa) (fn : List DefC) (ex : PySem.W.Frag → Bool) (K : PySem.W.Frag) : AlC := ((fa.all fun f => f.ok K) && ((fn.all fun d => d.ok K) && ex K), fn.map fun d => seen K (d.adr K))
def valC (fn : List DefC) : AlC := (true, fn.map DefC.val)
def SaysC (fa : List He.Fa) (fn : List DefC) (ex : PySem.W.Frag → Bool) (K : PySem.W.Frag) : Prop := obsC fa fn ex K = valC fn
section
variable {fa : List He.Fa} {fn : List DefC} {ex : PySem.W.Frag → Bool} {K : PySem.W.Frag}
theorem SaysC.b (c : SaysC fa fn ex K) : ((fa.all fun f => f.ok K) && ((fn.all fun d => d.ok K) && ex K)) = true := congrArg (fun z : AlC => z.1) c
theorem SaysC.facts (c : SaysC fa fn ex K) {f : He.Fa} (h : f ∈ fa) : f.ok K = true := List.all_eq_true.mp (He.ba c.b).1 f h
theorem SaysC.more (c : SaysC fa fn ex K) : ex K = true := (He.ba (He.ba c.b).2).2
theorem SaysC.ok (c : SaysC fa fn ex K) (i : Nat) {d : DefC} (h : fn[i]? = some d := by rfl) : d.ok K = true := List.all_eq_true.mp (He.ba (He.ba c.b).2).1 d (List.mem_of_getElem? h)
theorem SaysC.at_ (c : SaysC fa fn ex K) (i : Nat) {d : DefC} (h : fn[i]? = some d := by rfl) : d.at_.ok K = true := (He.ba (c.ok i h)).1
theorem SaysC.def_ (c : SaysC fa fn ex K) (i : Nat) {d : DefC} (h : fn[i]? = some d := by rfl) : ∃ fd, FunD K d.name d.qual d.params d.body d.scope (d.dvs K) (d.kws K) (d.adr K) fd := by
  have e : fn.map (fun d => seen K (d.adr K)) = fn.map DefC.val := congrArg (fun z : AlC => z.2) c
  have e2 : (fn.map fun d => seen K (d.adr K))[i]? = (fn.map DefC.val)[i]? := by rw [e]
  (rw [List.getElem?_map, List.getElem?_map, h] at e2)
  exact DefC.funD (Option.some.inj e2) (c.ok i h)
end
/-- a class's facts in a list of facts -/
theorem clsD_of {cl : Cl} {K : PySem.W.Frag} {c : Str} {names : List Str} (h : cl c = some (He.ga K c, names)) (hc : (He.Fa.cls c).ok K = true) (hn : ∀ f ∈ names, (He.Fa.noat c f).ok K = true) (nd : names.Nodup) : ClsD K cl c (He.ga K c) names :=
  ⟨h, He.cls_ok hc, fun f hf => He.noat_ok (hn f hf), nd⟩
end Dt
namespace Dt
open L2 PySem PySem.Spec PyProof.Rows
/-! ### sorted(set(xs)), ints -/
section
variable {P : Program} {w : World} {A : Around} {E : Value
      → Shared → Prop} {s : Shared}
end
end Dt
namespace Dt
open L2 PySem PySem.Spec PyProof.Rows
section
variable {X : Cx}
end
section
variable {X : Cx} {cl : Cl} {wx : WX} {pos pos' p p' : Pos} {e : Expr} {fr : S → M (List D × S)}
end
end Dt
namespace Dt
open L2 PySem PySem.Spec PyProof.Rows
/-! ### x in xs, xs a list or a tuple of flat items -/
theorem scal_flat {K : PySem.W.Frag} {cl : Cl} {H : Hp} {v : V} {d : D} (r : Rp K cl H v d) (s : d.scal = true) : flatV v = true := by
  cases r <;> first | rfl | cases s
theorem scal_eq {K : PySem.W.Frag} {cl : Cl} {H : Hp} {v u : V} {d e : D} (r : Rp K cl H v d) (q : Rp K cl H u e) (s : d.scal = true) (t : e.scal = true) : eqV v u = PyData.eqv d.py e.py := by
  cases r <;> first | (cases s; done) | skip
  all_goals cases q <;> first | (cases t; done) | (simp [eqV, D.py, PyData.eqv])
theorem scals_flat {K : PySem.W.Frag} {cl : Cl} {H : Hp} : ∀ {vs : List V} {ds : List D}, RpA K cl H vs ds → ds.all D.scal = true → vs.all flatV = true
  | _, _, .nil, _ => rfl
  | _, _, .cons a r, h => by
    (rw [List.all_cons, Bool.and_eq_true] at h)
    rw [List.all_cons, scal_flat a h.1, scals_flat r h.2]
    rfl
theorem scals_in {K : PySem.W.Frag} {cl : Cl} {H : Hp} {v : V} {d : D} (rv : Rp K cl H v d) (sv : d.scal = true) : ∀ {vs : List V} {ds : List D}, RpA K cl H vs ds → ds.all D.scal = true → inV v vs = ((D.pys ds).any fun z => PyData.eqv z d.py)
  | _, _, .nil, _ => by rw [D.pys]; rfl
  | _, _, .cons a r, h => by
    (rw [List.all_cons, Bool.and_eq_true] at h)
    have ih := scals_in rv sv r h.2
    unfold inV at ih ⊢
    rw [D.pys, List.any_cons, List.any_cons, ih, scal_eq a rv h.1 sv]
def ninA : Op2 := fun d e => match e with
  | .tup xs => if d.scal = true ∧ xs.all D.scal = true then ok (.bl (!(D.pys xs).any fun z => PyData.eqv z d.py)) else none
  | e => ninD d e
section
variable {X : Cx} {cl : Cl} {wx : WX} {K : PySem.W.Frag} {f : Value → Value → Sem Value} {r r' : R2}
theorem opR_or (h : OpR X f r) (h' : OpR X f r') : OpR X f (fun x y H Q => r x y H Q ∨ r' x y H Q) := fun pins s σ H x y v u Q I rx ry q => by
  rcases q with q | q
  · (exact h pins s σ H x y v u Q I rx ry q)
  · (exact h' pins s σ H x y v u Q I rx ry q)
theorem k_ninA (hu : X.A.units + 65 < cLine) : OpK X X.K cl (compareOp .NotIn) ninA := by
  obtain ⟨r, h1, h2⟩ := (k_ninD (cl := cl) hu).it
  refine ⟨_, opR_or h1 op_notIn_seq, fun O H x y d e Q al rx ry h => ?_⟩
  cases e with
  | tup xs =>
    dsimp only [ninA] at h
    split at h
    · next c =>
      cases ry with
      | tup s rs =>
        refine .inr ⟨_, _, rfl, .inr (same_sqT hide_le s), scal_flat rx c.1, scals_flat rs c.2, ?_⟩
        rw [if_pos rfl, scals_in rx c.1 rs c.2]
        exact h.now (.bl _)
    · exact h.elim
  | _ => exact .inl (h2 O H x y d _ Q al rx ry h)
theorem u1 {k : Nat} {A : Around} (r : Room k A) : A.units + 1 < cLine := by
  have := r.un
  omega
end
/-! ### tests -/
section
variable {X : Cx} {cl : Cl} {wx : WX} {pos : Pos} {fk : S → M (D × S)} {ke : Expr}
end
section
variable {X : Cx} {K : PySem.W.Frag} {cl : Cl} {wx : WX} {pos : Pos} {a b c : Expr} {fa fb fc : S → M (D × S)} {g g' : Op2} {op op' : CmpOp}
end
/-! ### -a -/
def dNeg (f : S → M (D × S)) : S → M (D × S) := fun s => bd (f s) fun p => match p.1 with
  | .int i => ok (.int (-i), p.2)
  | _ => none
section
variable {X : Cx} {K : PySem.W.Frag} {cl : Cl} {wx : WX} {pos : Pos} {e : Expr} {f : S → M (D × S)}
theorem d_neg (he : PE X e (TEof K cl wx f)) : PE X (.UnaryOp .USub e pos) (TEof K cl wx (dNeg f)) := by
  refine iE (pe_un un_neg he) ?_
  rintro σ H Q ⟨w, L, sd, W, h0⟩
  refine ⟨w, L, sd, W, PostE.bd botE h0 fun r s1 h v H1 st1 W1 rr => ?_⟩
  cases r with
  | int i =>
    cases rr
    exact ⟨i, rfl, h _ H1 st1 W1 (.int _)⟩
  | _ => exact h.elim
end
end Dt
namespace Dt
open L2 PySem PySem.Spec PyProof.Rows
/-! ### range of any ints -/
end Dt
namespace Dt
open L2 PySem PySem.Spec PyProof.Rows
section
variable {X : Cx} {tg : Expr}
variable {K : PySem.W.Frag} {cl : Cl} {wx : WX} {a b : Expr} {p pos : Pos} {fr : S → M (List D × S)}
def iRA (fr : S → M (List D × S)) : S → M (List D × S) := fun s => bd (fr s) fun p => match p.1 with
  | [.int i, .int j] => ok (rangeD i (j - i).toNat, p.2)
  | _ => none
end
end Dt
namespace Dt
open L2 PySem PySem.Spec PyProof.Rows
/-! ### generators: mirrors. So many items are asked for; the items, and how the body ended (none: all that was asked for has come) -/
abbrev GM := Nat → S → M (List D × Option Out)
/-- who asks for fewer gets the first of the same items -/
def Cut (zs : List D) (o : Option Out) (m : Nat) : List D × Option Out := if zs.length < m then (zs, o) else (zs.take m, none)
structure PfxAt (F : Nat → M (List D × Option Out)) (n : Nat) (zs : List D) (o : Option Out) : Prop where
  le : zs.length ≤ n
  full : o = none → zs.length = n
  less : o ≠ none → zs.length < n
  cut : ∀ m, 0 < m → m ≤ n → F m = ok (Cut zs o m)
def Pfx (F : GM) : Prop := ∀ n s zs o, 0 < n → F n s = ok (zs, o) → PfxAt (fun m => F m s) n zs o
end Dt
/-! Sleeping generators that nobody wakes stay as they are: a frame rule for the table of generators. -/
namespace Dt
open L2 PySem PySem.Spec PyProof.Rows
def asl : GenState → Bool
  | .suspended .. => true
  | _ => false
/-- .. whose code stops if somebody wakes it -/
def dead : GenState → GenState
  | .suspended _ l c p fs cl => .suspended (fun _ => .unsupported "") l c p fs cl
  | x => x
def Asl (old : Array GenState) (i : Nat) : Prop := ∃ y, old[i]? = some y ∧ asl y = true
/-- the sleepers of old sleep on, nobody can wake them; who sleeps otherwise sleeps in its own frames -/
structure Gfz (old : Array GenState) (s : Shared) : Prop where
  sz : old.size ≤ s.gens.size
  at' : ∀ (i : Nat) (y : GenState), old[i]? = some y → asl y = true → s.gens[i]? = some (dead y)
  cl : ∀ (i : Nat) (k : Resume → Sem PySem.Fin) (l : List Value) (c : Code) (p : Pos) (fs : List Frame) (z : Bool), s.gens[i]? = some (.suspended k l c p fs z) → ¬ Asl old i → splitAtGen fs = none
theorem Gfz.set {old : Array GenState} {s : Shared} {g : Nat} {x : GenState} (f : Gfz old s) (h : ¬ Asl old g) (hx : ∀ k l c p fs z, x = .suspended k l c p fs z → splitAtGen fs = none) : Gfz old (s.setGen g x) := by
  refine ⟨?_, fun i y e c => ?_, fun i k l c p fs z e n => ?_⟩
  · show old.size ≤ (s.gens.setIfInBounds g x).size
    rw [Array.size_setIfInBounds]
    exact f.sz
  · show (s.gens.setIfInBounds g x)[i]? = some (dead y)
    rw [Array.getElem?_setIfInBounds_ne]
    · exact f.at' i y e c
    · rintro rfl
      exact h ⟨y, e, c⟩
  · have e : (s.gens.setIfInBounds g x)[i]? = some (.suspended k l c p fs z) := e
    rw [Array.getElem?_setIfInBounds] at e
    by_cases q : g = i
    · rw [if_pos q] at e
      split at e
      · exact hx k l c p fs z (Option.some.inj e)
      · cases e
    · rw [if_neg q] at e
      exact f.cl i k l c p fs z e n
theorem Gfz.push {old : Array GenState} {s : Shared} {c : Code} (f : Gfz old s) : Gfz old { s with gens := s.gens.push (.fresh c) } := by
  refine ⟨?_, fun i y e h => ?_, fun i k l c' p fs z e n => ?_⟩
  · show old.size ≤ (s.gens.push (.fresh c)).size
    rw [Array.size_push]
    exact Nat.le_succ_of_le f.sz
  · show (s.gens.push (.fresh c))[i]? = _
    rw [Array.getElem?_push, if_neg]
    · exact f.at' i y e h
    · have := (Array.getElem?_eq_some_iff.mp e).1
      have := f.sz
      omega
  · have e : (s.gens.push (.fresh c))[i]? = some (.suspended k l c' p fs z) := e
    rw [Array.getElem?_push] at e
    split at e
    · cases e
    · exact f.cl i k l c' p fs z e n
section
variable {X
      : Cx} {pins : List (Addr × Obj)} {σ : L2.St} {H : Hp} {s : Shared}
end
end Dt
namespace Dt
open PySem PySem.Spec PyProof.Rows L2 GenW
/-! ### the heap below an address -/
def low (h : Heap) (n : Nat) : Heap := { h with objs := h.objs.extract 0 n }
theorem low_size (h : Heap) (n : Nat) : (low h n).objs.size = min n h.objs.size := by simp [low]
theorem low_get {h : Heap} {n b : Nat} (hb : b < n) : (low h n).get? b = h.get? b := by
  have e : (low h n).objs[b]? = h.objs[b]? := by
    show (h.objs.extract 0 n)[b]? = _
    rw [Array.getElem?_extract]
    by_cases c : b < h.objs.size
    · rw [if_pos (by omega)]
      simp
    · rw [if_neg (by omega)]
      rw [Array.getElem?_eq_none (by omega)]
  unfold Heap.get?
  rw [e]
theorem low_out {h : Heap} {n b : Nat} {o : Obj} (e : (low h n).get? b = some o) : b < n := by
  have := Heap.lt_size e
  rw [low_size] at this
  exact Nat.lt_of_lt_of_le this (Nat.min_le_left _ _)
theorem of_low {h : Heap} {n b : Nat} {o : Obj} (e : (low h n).get? b = some o) : h.get? b = some o := by
  rw [← low_get (low_out e)]
  exact e
def lowH (H : Hp) (n : Nat) : Hp := fun b => if b < n then H b else none
theorem lowH_in {H : Hp} {n b : Nat} (h : b < n) : lowH H n b = H b := if_pos h
theorem of_lowH {H : Hp} {n b : Nat} {o : HO} (e : lowH H n b = some o) : H b = some o := by
  unfold lowH at e
  split at e
  · exact e
  · cases e
def isCell (o : Obj) : Bool := match o.data with
  | .cell _ => true
  | _ => false
theorem not_cell {o : Obj} (h : isCell o = false) : ∀ v, o.data ≠ .cell v := fun v e => by
  unfold isCell at h
  rw [e] at h
  cases h
/-- what others own and nobody tracks, from n on -/
def keepers (h : Heap) (H : Hp) (n : Nat) (fp : List Addr) : List (Addr × Obj) := (List.range h.objs.size).filterMap fun b =>
  if n ≤ b ∧ (H b).isNone = true ∧ b ∉ fp then (h.get? b).bind fun o => if isCell o = true then none else some (b, o) else none
theorem of_keepers {h : Heap} {H : Hp} {n : Nat} {fp : List Addr} {p : Addr × Obj} (hp : p ∈ keepers h H n fp) : n ≤ p.1 ∧ H p.1 = none ∧ p.1 ∉ fp ∧ h.get? p.1 = some p.2 ∧ ∀ v, p.2.data ≠ .cell v := by
  (obtain ⟨b, _, e⟩ := List.mem_filterMap.mp hp)
  split at e
  · next c =>
    cases q : h.get? b with
    | none => (rw [q] at e; cases e)
    | some o =>
      rw [q] at e
      have e : (if isCell o = true then none else some (b, o)) = some p := e
      by_cases c2 : isCell o = true
      · rw [if_pos c2] at e; cases e
      · rw [if_neg c2] at e
        cases e
        have c3 : isCell o = false := by simpa using c2
        exact ⟨c.1, Option.isNone_iff_eq_none.mp c.2.1, c.2.2, q, not_cell c3⟩
  · cases e
theorem mem_keepers {h : Heap} {H : Hp} {n b : Nat} {fp : List Addr} {o : Obj} (h1 : n ≤ b) (h2 : H b = none) (h3 : b ∉ fp) (h4 : h.get? b = some o) (h5 : isCell o = false) : (b, o) ∈ keepers h H n fp := by
  refine List.mem_filterMap.mpr ⟨b, List.mem_range.mpr (Heap.lt_size h4), ?_⟩
  rw [if_pos ⟨h1, by rw [h2]; rfl, h3⟩, h4]
  show (if isCell o = true then none else some (b, o)) = _
  rw [h5]
  rfl
/-! ### a generator def, called: what stands through its life -/
structure Gp where
  P : Program
  w : World
  K : PySem.W.Frag
  mg : Str → Option Value
  base : Heap
  N : List Str
  qual : Str
  scope : Scope
  f : Addr
  cd : Value
  A : Around
  outer : List Env
  n0 : Addr
abbrev Gp.env (G : Gp) : Env := envOfC G.qual G.scope G.n0 G.f G.cd
/-- its context from the wake at s on: fp: what the consumer holds for it -/
def Gp.X (G : Gp) (s : Shared) (H : Hp) (fp : List Addr) : Cx where
  prog := G.P
  w := G.w
  K := G.K
  mg := G.mg
  base := G.base
  A := G.A.deeper G.env
  N := G.N
  s_0 := { s with heap := low s.heap G.n0 }
  H_0 := lowH H G.n0
  env := G.env
  outer := G.outer
  stack := G.env :: G.outer
  ex := []
  fn := fun _ => true
  calm := true
  pn := keepers s.heap H G.n0 fp
  xe := fun _ _ => False
/-- no cells in its frame; all else that does not change -/
structure Gp.Ok (G : Gp) : Prop where
  kind : G.scope.kind = .function
  nocell : ∀ x, G.env.cells.lookup x = none
  nokind : ∀ x, G.env.kindOf x ≠ some .cell ∧ G.env.kindOf x ≠ some .free
  mod : Mod G.K G.mg G.base
  bsz : G.base.objs.size ≤ G.n0
  hd : G.A.handled = none
  frames : G.A.frames = some G.outer
  below : ∀ b ∈ frs G.outer, b < G.n0
/-- who draws -/
structure Cb where
  X : Cx
  pins : List (Addr × Obj)
  item : Nat → Option D
  fin : Nat → Prop
  Cn : Nat → List Addr → List Addr → L2.St → Hp → Prop
structure Cb.Fits (C : Cb) (G : Gp) : Prop where
  prog : C.X.prog = G.P
  w : C.X.w = G.w
  base : C.X.base = G.base
  stack : C.X.stack = G.outer
  sz : C.X.s_0.heap.objs.size ≤ G.n0
  loc : C.X.env.locals < G.n0
  cells : ∀ x c, C.X.env.cells.lookup x = some c → c < G.n0
abbrev wg (O : List Addr) : Wf := ⟨O, [], 0, fun _ => none⟩
/-- running since the wake at s₀ -/
structure GBat (G : Gp) (C : Cb) (ip : List (Addr × Obj)) (s₀ : Shared) (n : Nat) (O L : List Addr) (σ : L2.St) (H : Hp) (s : Shared) (Hw : Hp) (fp : List Addr) (σc : L2.St) (Lw : List Addr) : Prop where
  cI : Inv C.X C.pins σc Hw s₀
  cn : C.Cn n Lw O σc Hw
  fpo : ∀ b ∈ fp, FpOk C.X C.pins Hw b
  n0 : G.n0 ∈ fp
  ips : ∀ p ∈ ip, G.n0 ≤ p.1 ∧ ∀ q ∈ keepers s₀.heap Hw G.n0 fp, q.1 ≠ p.1
  I : Inv (G.X s₀ Hw fp) ip σ H s
  st : Step (wg O) Lw Hw L H
  mu : ∀ a ∈ Lw, Mut (Hw a)
  sz : G.n0 < s₀.heap.objs.size
structure GIat (G : Gp) (cl : Cl) (C : Cb) (ip : List (Addr × Obj)) (Φ : Hp → Prop) (s₀ : Shared) (n : Nat) (O L : List Addr) (sd : S) (σ : L2.St) (H : Hp) (s : Shared) (Hw : Hp) (fp : List Addr) (σc : L2.St) (Lw : List Addr) : Prop extends GBat G C ip s₀ n O L σ H s Hw fp σc Lw where
  W : Wl G.K cl (wg O) L sd σ H
  phi : Φ (hide (L ++ O) H)
/-- what the consumer may do meanwhile -/
structure Slp (L O : List Addr) (H : Hp) (O2 : List Addr) (H2 : Hp) : Prop where
  keep : ∀ b o, b ∉ O → H b = some o → H2 b = some o
  alv : ∀ b, H b ≠ none → H2 b ≠ none
  new : ∀ a ∈ O2, a ∈ O ∨ H a = none
  alive : ∀ a ∈ O2, H2 a ≠ none
theorem Slp.seen {L O O2 : List Addr} {H H2 : Hp} (s : Slp L O H O2 H2) : Same (hide (L ++ O) H) (hide (L ++ O2) H2) := fun b o e => by
  obtain ⟨n, e⟩ := hide_some.mp e
  have n1 : b ∉ L := fun z => n (List.mem_append_left _ z)
  have n2 : b ∉ O := fun z => n (List.mem_append_right _ z)
  refine hide_some.mpr ⟨fun z => ?_, s.keep b o n2 e⟩
  rcases List.mem_append.mp z with z | z
  · exact n1 z
  · rcases s.new b z with y | y
    · exact n2 y
    · rw [e] at y; cases y
theorem Wl.slept {K : PySem.W.Frag} {cl : Cl} {L O O2 : List Addr} {sd : S} {σ : L2.St} {H H2 : Hp} (W : Wl K cl (wg O) L sd σ H) (s : Slp L O H O2 H2) : Wl K cl (wg O2) L sd σ H2 := by
  have sm := s.seen
  have own : ∀ {a d}, a ∈ L → OwnAt K cl (fun _ => none) (L ++ O) H a d → OwnAt K cl (fun _ => none) (L ++ O2) H2 a d := fun {a d} ha h => by
    refine h.move ?_ sm
    cases q : H a with
    | none => exact absurd q h.some
    | some o => exact s.keep a o (W.disj a ha) q
  refine ⟨fun b o _ e => (by cases e), fun a _ => rfl, fun a ha => ?_, fun a ha z => ?_, fun a h => by simp at h, ⟨fun i d e => ?_, fun i d e => ?_, fun i d e => ?_, W.st.inj, W.st.ioj, W.st.len, W.st.tr.same sm rfl fun x hx _ _ => by
    rcases hx with hx | hx
    · refine ⟨?_, .inl hx⟩
      cases q : H x with
      | none => exact absurd q (W.alive x (List.mem_append_left _ hx))
      | some o => exact s.keep x o (W.disj x hx) q
    · exact absurd hx (by simp)⟩⟩
  · rcases List.mem_append.mp ha with z | z
    · exact s.alv a (W.alive a (List.mem_append_left _ z))
    · exact s.alive a z
  · rcases s.new a z with y | y
    · exact W.disj a ha y
    · exact W.alive a (List.mem_append_left _ ha) y
  · obtain ⟨v, h1, h2⟩ := W.st.val i d e
    exact ⟨v, h1, h2.mono sm⟩
  · obtain ⟨a, h1, h2, h3⟩ := W.st.own i d e
    exact ⟨a, h1, h2, own h2 h3⟩
  · obtain ⟨h1, h2, h3⟩ := W.st.io i d e
    exact absurd h2 (by simp)
theorem ObjOk.get {P : Program} {w : World} {H : Hp} {h : Heap} {a : Addr} {o : HO} (x : ObjOk P w H h a o) : ∃ u, h.get? a = some u := by
  induction o with
  | lst xs => (obtain ⟨_, _, _, _, e⟩ := x; exact ⟨_, e⟩)
  | tup xs => obtain ⟨_, _, _, ob, e, _⟩ := x; exact ⟨_, e⟩
  | dK kvs => obtain ⟨_, _, _, _, o, _, _, e, _⟩ := x; exact ⟨_, e⟩
  | dT kvs => obtain ⟨_, _, _, _, o, _, _, e, _⟩ := x; exact ⟨_, e⟩
  | set S n => obtain ⟨o, _, _, _, e, _⟩ := x; exact ⟨_, e⟩
  | ins C dx fs => (obtain ⟨_, _, _, e, _⟩ := x; exact ⟨_, e⟩)
  | own y => (obtain ⟨o, e⟩ := x; exact ⟨o, e⟩)
  | xd fs => obtain ⟨_, ⟨_, _, _, e, _⟩, _⟩ := x; exact ⟨_, e⟩
  | rng lo hi => (obtain ⟨_, _, _, e⟩ := x; exact ⟨_, e⟩)
  | frz ob u ih => exact ⟨_, x.1⟩
  | tbl ps => exact ⟨_, x⟩
  | met f y => exact ⟨_, x⟩
  | ext φ => (obtain ⟨_, ⟨o, e⟩, _⟩ := x; exact ⟨o, e⟩)
/-- the cells from n on -/
def cellsOf (h : Heap) (n : Nat) : List Addr := (List.range h.objs.size).filter fun b => match h.get? b with
  | some o => decide (n ≤ b) && isCell o
  | none => false
theorem mem_cellsOf {h : Heap} {n b : Nat} {o : Obj} (e : h.get? b = some o) (h1 : n ≤ b) (h2 : isCell o = true) : b ∈ cellsOf h n := by
  refine List.mem_filter.mpr ⟨List.mem_range.mpr (Heap.lt_size e), ?_⟩
  simp only [e]
  rw [h2, decide_eq_true h1]
  rfl
theorem of_cellsOf {h : Heap} {n b : Nat} (hb : b ∈ cellsOf h n) : n ≤ b ∧ ∃ o v, h.get? b = some o ∧ o.data = .cell v := by
  have e := (List.mem_filter.mp hb).2
  cases q : h.get? b with
  | none =>
    simp only [q] at e
    cases e
  | some o =>
    simp only [q] at e
    obtain ⟨e1, e2⟩ := Bool.and_eq_true_iff.mp e
    refine ⟨of_decide_eq_true e1, o, ?_⟩
    unfold isCell at e2
    split at e2
    · next v hv => exact ⟨v, rfl, hv⟩
    · cases e2
section
variable {G : Gp} {cl : Cl} {C : Cb} {ip : List (Addr × Obj)} {Φ : Hp → Prop} {s₀ s : Shared} {n : Nat} {O L : List Addr} {sd : S} {σ : L2.St} {H Hw : Hp} {fp : List Addr} {σc : L2.St} {Lw : List Addr}
/-- what others own, that is no cell, is kept -/
theorem GBat.un (g : GBat G C ip s₀ n O L σ H s Hw fp σc Lw) (F : C.Fits G) : Un (frs C.X.stack) (fp ++ cellsOf s₀.heap G.n0) Hw H s₀.heap s.heap := by
  have nfs : ∀ {b}, b ∈ frs G.outer → b ∈ frs C.X.stack := fun h => by rw [F.stack]; exact h
  have tr : ∀ b o, Hw b = some o → b ∉ Lw → H b = some o := fun b o e h => g.st.keep b o h (by simp) e
  have I := g.I
  -- untracked, not among ch
  have keepU : ∀ b o, s₀.heap.get? b = some o → Hw b = none → b ∉ fp → ¬ (G.n0 ≤ b ∧ isCell o = true) → (b ∉ frs G.outer → s.heap.get? b = some o) ∧ (∃ sl, s.heap.get? b = some { o with slots := sl }) ∧ H b = none := fun b o e hn hf hc => by
    rcases Nat.lt_or_ge b G.n0 with hb | hb
    · have e' : (low s₀.heap G.n0).get? b = some o := by rw [low_get hb]; exact e
      have n' : lowH Hw G.n0 b = none := by rw [lowH_in hb]; exact hn
      refine ⟨fun h => I.base.keep b o e' n' h (by simp [Gp.X]), ?_, I.base.free b o e' n' (by simp [Gp.X])⟩
      exact I.base.any e' n' (by simp [Gp.X])
    · have hc' : isCell o = false := by
        cases q : isCell o with
        | false => rfl
        | true => exact absurd ⟨hb, q⟩ hc
      have k := I.pin (b, o) (List.mem_append_left _ (mem_keepers hb hn hf e hc'))
      exact ⟨fun _ => k.1, ⟨o.slots, k.1⟩, k.2.1⟩
  have nch : ∀ {b o}, s₀.heap.get? b = some o → b ∉ (fp ++ cellsOf s₀.heap G.n0) → b ∉ fp ∧ ¬ (G.n0 ≤ b ∧ isCell o = true) := fun {b o} e h =>
    ⟨fun z => h (List.mem_append_left _ z), fun ⟨z1, z2⟩ => h (List.mem_append_right _ (mem_cellsOf e z1 z2))⟩
  have nmu : ∀ b u, Hw b = some u → ¬ Mut (some u) → b ∉ Lw := fun b u e hm z => by
    have := g.mu b z
    rw [e] at this
    exact hm this
  refine ⟨fun b o e hn hfs hx => ?_, fun b o e hn hfs hx => ?_, fun b o e hn hx => ?_, fun b o e hx => ?_, fun b xs e => tr b _ e (nmu b _ e fun z => z), fun b o u e => tr b _ e (nmu b _ e fun z => z), fun b ps e => ⟨#[], by rw [tr b _ e (nmu b _ e fun z => z)]; simp⟩⟩
  · obtain ⟨h1, h2⟩ := nch e hx
    exact (keepU b o e hn h1 h2).1 fun z => hfs (nfs z)
  · obtain ⟨h1, h2⟩ := nch e hx
    exact (keepU b o e hn h1 h2).2.1
  · obtain ⟨h1, h2⟩ := nch e hx
    exact (keepU b o e hn h1 h2).2.2
  · obtain ⟨h1, h2⟩ := nch e hx
    cases q : Hw b with
    | none =>
      obtain ⟨sl, h⟩ := (keepU b o e q h1 h2).2.1
      exact ⟨_, h⟩
    | some u =>
      have al : H b ≠ none := g.st.alv b (by rw [q]; simp)
      cases r : H b with
      | none => exact absurd r al
      | some v => exact ObjOk.get (I.hok b v r)
/-- the consumer's state stands -/
theorem GBat.back (g : GBat G C ip s₀ n O L σ H s Hw fp σc Lw) (F : C.Fits G) : Inv C.X C.pins σc H s := by
  have u := g.un F
  have os : s.os = s₀.os := g.I.os
  have hok : HOk C.X.prog C.X.w H s.heap := by
    rw [F.prog, F.w]
    exact g.I.hok
  refine g.cI.call' os u hok g.I.bare fun b hb => ?_
  rcases List.mem_append.mp hb with z | z
  · obtain ⟨_, h1, h2, h3, h4, h5⟩ := g.fpo b z
    exact ⟨h3, h1, h4, h5⟩
  · obtain ⟨h1, o, v, h2, h3⟩ := of_cellsOf z
    refine ⟨.inr (Nat.le_trans F.sz h1), Nat.ne_of_gt (Nat.lt_of_lt_of_le F.loc h1), fun x c e => Nat.ne_of_lt (Nat.lt_of_lt_of_le (F.cells x c e) h1), fun p hp e => ?_⟩
    obtain ⟨k1, _, _, _, k2⟩ := g.cI.pin p hp
    rw [e, h2] at k1
    cases k1
    exact k2 v h3
/-- woken again -/
theorem GIat.wake (g : GIat G cl C ip Φ s₀ n O L sd σ H s Hw fp σc Lw) (F : C.Fits G) (K0 : G.Ok) {L1 : List Addr} (W1 : Wl G.K cl (wg O) L1 sd σ H) (hm : ∀ a ∈ L1, Mut (H a)) (ph : Φ (hide (L1 ++ O) H)) (hΦ : ∀ V V', Same V V' → Φ V → Φ V')
    {m : Nat} {s2 : Shared} {σ2 : L2.St} {H2 : Hp} {O2 : List Addr} (I2 : Inv C.X C.pins σ2 H2 s2) (cn : C.Cn m L1 O2 σ2 H2) (sl : Slp L1 O H O2 H2) (hf : ∀ b ∈ G.n0 :: ip.map (·.1), FpOk C.X C.pins H2 b ∧ ∀ o, s.heap.get? b = some o → s2.heap.get? b = some o) :
    GIat G cl C ip Φ s2 m O2 L1 sd σ H2 s2 H2 (G.n0 :: ip.map (·.1)) σ2 L1 := by
  have fsn : ∀ b ∈ frs G.outer, H2 b = none := fun b hb => I2.stkFree b (by rw [F.stack]; exact hb)
  have gI := g.I
  have hL := (hf G.n0 List.mem_cons_self).2
  have low2 : ∀ b o, (low s2.heap G.n0).get? b = some o → s2.heap.get? b = some o := fun b o e => of_low e
  have low3 : ∀ {b}, b < G.n0 → (low s2.heap G.n0).get? b = s2.heap.get? b := fun h => low_get h
  have hn : H2 G.n0 = none := (hf G.n0 List.mem_cons_self).1.1
  refine ⟨⟨I2, cn, fun b hb => (hf b hb).1, List.mem_cons_self, fun p hp => ⟨(g.ips p hp).1, fun q hq e => (of_keepers hq).2.2.1 (List.mem_cons_of_mem _ (List.mem_map.mpr ⟨p, hp, e.symm⟩))⟩, ?_, .refl, fun a ha => ?_, ?_⟩, W1.slept sl, hΦ _ _ sl.seen ph⟩
  · refine ⟨⟨K0.mod, K0.kind, rfl, rfl, ?_, gI.ok.inj, gI.ok.has, fun x c _ e => ?_, fun _ => K0.hd, Around.frames_deeper K0.frames, .inr ⟨rfl, rfl⟩, fun b z => absurd z (by simp [Gp.X]), fun b o e => ?_, ?_, fun b o e => by simp [Gp.X], fun b z => absurd z (by simp [Gp.X]), ?_, fun b hb => ?_⟩,
      rfl, I2.bare, ⟨fun b o e h1 h2 h3 => low2 b o e, fun b o e h1 h2 h3 => ⟨o.slots, low2 b o e⟩, fun b o e h1 h2 => ?_, fun b o e h1 => ⟨o, low2 b o e⟩, fun b xs e => of_lowH e, fun b o u e => of_lowH e, fun b ps e => ⟨#[], by rw [of_lowH e]; simp⟩⟩, ?_, fun x c e => ?_, hn, fun x c e => ?_, fun p hp => ?_, ?_, gI.len⟩
    · show (low s2.heap G.n0).objs.size ≤ G.n0
      rw [low_size]
      exact Nat.min_le_left _ _
    · rw [show (G.X s2 H2 (G.n0 :: ip.map (·.1))).env.cells.lookup x = none from K0.nocell x] at e
      cases e
    · have q : C.X.base.get? b = some o := by rw [F.base]; exact e
      have hb : b < G.n0 := Nat.lt_of_lt_of_le (Heap.lt_size e) K0.bsz
      obtain ⟨q1, q2⟩ := I2.bs b o q
      exact ⟨(low3 hb).trans q1, (lowH_in hb).trans q2⟩
    · show G.base.objs.size ≤ (low s2.heap G.n0).objs.size
      rw [low_size]
      refine Nat.le_min.mpr ⟨K0.bsz, ?_⟩
      have := I2.ok.bsz
      rw [F.base] at this
      exact Nat.le_trans this I2.sz
    · show (low s2.heap G.n0).FunFrames G.base G.outer
      have fr := I2.stack
      rw [F.stack, F.base] at fr
      have : ∀ (l : List Env), (∀ b ∈ frs l, b < G.n0) → s2.heap.FunFrames G.base l → (low s2.heap G.n0).FunFrames G.base l := by
        intro l
        induction l with
        | nil => intro _ _; trivial
        | cons env rest ih =>
          intro hb ⟨h1, ⟨A, o, h2, h3, h4, h5⟩, h6⟩
          have hA : A < G.n0 := hb A (by
            unfold frs
            rw [List.filterMap_cons, h2]
            exact List.mem_cons_self)
          refine ⟨h1, ⟨A, o, h2, h3, (low3 hA).trans h4, h5⟩, ih (fun b z => hb b ?_) h6⟩
          unfold frs
          rw [List.filterMap_cons, h2]
          exact List.mem_cons_of_mem _ z
      exact this G.outer K0.below fr
    · show lowH H2 G.n0 b = none
      rw [lowH_in (K0.below b hb)]
      exact fsn b hb
    · have e' := lowH_in (H := H2) (low_out e)
      rw [← e']
      exact h1
    · obtain ⟨m', ⟨o, es, ep, ho, r⟩, hl⟩ := gI.loc
      refine ⟨m', ⟨o, es, ep, hL o ho, r⟩, fun i x v h1 h2 h3 => ?_⟩
      obtain ⟨u, ru, lk⟩ := hl i x v h1 h2 h3
      refine ⟨u, ru, ?_⟩
      rcases lk with lk | ⟨lk, _⟩
      · exact .inl lk
      · rcases lk with lk | lk
        · exact absurd lk (K0.nokind x).1
        · exact absurd lk (K0.nokind x).2
    · rw [show (G.X s2 H2 (G.n0 :: ip.map (·.1))).env.cells.lookup x = none from K0.nocell x] at e
      cases e
    · rw [show (G.X s2 H2 (G.n0 :: ip.map (·.1))).env.cells.lookup x = none from K0.nocell x] at e
      cases e
    · (rcases List.mem_append.mp hp with hp | hp)
      · obtain ⟨h1, h2, h3, h4, h5⟩ := of_keepers hp
        refine ⟨h4, h2, fun z => h3 ?_, fun z => ?_, h5⟩
        · rw [z]
          exact List.mem_cons_self
        · exact absurd (K0.below p.1 z) (Nat.not_lt.mpr h1)
      · obtain ⟨k1, k2, k3, k4, k5⟩ := gI.pin p (List.mem_append_right _ hp)
        obtain ⟨f1, f2⟩ := hf p.1 (List.mem_cons_of_mem _ (List.mem_map.mpr ⟨p, hp, rfl⟩))
        exact ⟨f2 _ k1, f1.1, k3, k4, k5⟩
    · show HOk G.P G.w H2 s2.heap
      have := I2.hok
      rw [F.prog, F.w] at this
      exact this
  · have nO : a ∉ O := W1.disj a ha
    have := hm a ha
    cases q : H a with
    | none => rw [q] at this; exact this.elim
    | some o =>
      rw [sl.keep a o nO q, ← q]
      exact this
  · obtain ⟨_, ⟨o, _, _, ho, _⟩, _⟩ := gI.loc
    exact Heap.lt_size (hL o ho)
end
end Dt
namespace Dt
open PySem PySem.Spec PyProof.Rows L2 GenW
/-! ### a generator's statements -/
def Mono (Φ : Hp → Prop) : Prop := ∀ V V', Same V V' → Φ V → Φ V'
def Items (C : Cb) (n : Nat) (zs : List D) : Prop := ∀ i d, zs[i]? = some d → C.item (n - i) = some d
section
variable {G : Gp} {cl : Cl} {st : Stmt} {rest : List Stmt} {ts : List Nat}
theorem GIat.on {C : Cb} {ip : List (Addr × Obj)} {Φ : Hp → Prop} {s₀ s s' : Shared} {n : Nat} {O L L' : List Addr} {sd sd' : S} {σ σ' : L2.St} {H H' Hw : Hp} {fp : List Addr} {σc : L2.St} {Lw : List Addr} (hΦ : Mono Φ)
    (g : GIat G cl C ip Φ s₀ n O L sd σ H s Hw fp σc Lw) (I : Inv (G.X s₀ Hw fp) ip σ' H' s') (st : Step (wg O) L H L' H') (W : Wl G.K cl (wg O) L' sd' σ' H') : GIat G cl C ip Φ s₀ n O L' sd' σ' H' s' Hw fp σc Lw :=
  ⟨⟨g.cI, g.cn, g.fpo, g.n0, g.ips, I, g.st.trans st, g.mu, g.sz⟩, W, hΦ _ _ (st.seen g.W.sub) g.phi⟩
theorem Items.fst {C : Cb} {n : Nat} {as bs : List D} (h : Items C n (as ++ bs)) : Items C n as := fun i d e => h i d (by
  rw [List.getElem?_append_left (List.getElem?_eq_some_iff.mp e).1]
  exact e)
end
end Dt
namespace Dt
open PySem PySem.Spec PyProof.Rows L2 GenW
section
variable {G : Gp} {cl : Cl} {st : Stmt} {rest : List Stmt} {ts : List Nat}
end
section
variable {M : Model} {A : Around} {R : GenEnd} {Y : Protocol} {n : Nat} {s₀ s : Shared} {c : Code} {fs : List Frame} {K : Flow → Sem PySem.Fin} {J : Value → Sem PySem.Fin} {gd : Bool → Bool} {lv : List Value → List Value} {tg iter : Expr} {body : List Stmt} {env : Env} {pos : Pos}
end
end Dt
namespace Dt
open PySem PySem.Spec PyProof.Rows L2 GenW
section
variable {G : Gp} {cl : Cl} {st : Stmt} {rest : List Stmt} {ts us : List Nat}
/-- an iterator's own addresses -/
structure Fpi (G : Gp) (ip : List (Addr × Obj)) (s₀ : Shared) (Hw : Hp) (fp : List Addr) (H : Hp) (b : Addr) : Prop where
  no : H b = none
  nl : b ≠ G.n0
  nf : b ∉ frs G.outer
  le : G.n0 ≤ b
  ni : ∀ p ∈ ip, p.1 ≠ b
  wh : ∀ q ∈ keepers s₀.heap Hw G.n0 fp, q.1 ≠ b
theorem Fpi.ok {ip : List (Addr × Obj)} {s₀ : Shared} {fp : List Addr} {H Hw : Hp} {b : Addr} (K0 : G.Ok) (h : Fpi G ip s₀ Hw fp H b) : FpOk (G.X s₀ Hw fp) ip H b := by
  refine ⟨h.no, h.nl, h.nf, .inr ?_, fun x c e => ?_, fun p hp => ?_⟩
  · show (low s₀.heap G.n0).objs.size ≤ b
    rw [low_size]
    exact Nat.le_trans (Nat.min_le_left _ _) h.le
  · rw [show (G.X s₀ Hw fp).env.cells.lookup x = none from K0.nocell x] at e
    cases e
  · rcases List.mem_append.mp hp with z | z
    · exact h.wh p z
    · exact h.ni p z
theorem Fpi.of {ip : List (Addr × Obj)} {s₀ : Shared} {fp : List Addr} {H Hw : Hp} {b : Addr} (hz : G.n0 < s₀.heap.objs.size) (h : FpOk (G.X s₀ Hw fp) ip H b) : Fpi G ip s₀ Hw fp H b := by
  obtain ⟨h0, h1, h2, h3, _, h5⟩ := h
  refine ⟨h0, h1, h2, ?_, fun p hp => h5 p (List.mem_append_right _ hp), fun p hp => h5 p (List.mem_append_left _ hp)⟩
  rcases h3 with z | z
  · exact absurd z (by simp [Gp.X])
  · have z : (low s₀.heap G.n0).objs.size ≤ b := z
    rw [low_size, Nat.min_eq_left (Nat.le_of_lt hz)] at z
    exact z
end
end Dt
namespace Dt
open PySem PySem.Spec PyProof.Rows L2 GenW
section
variable {G : Gp} {cl : Cl} {C : Cb} {ip : List (Addr × Obj)} {s₀ s : Shared} {n : Nat} {O L : List Addr} {σ : L2.St} {H Hw : Hp} {fp : List Addr} {σc : L2.St} {Lw : List Addr}
end
/-! ### the first wake -/
/-- a generator def: what its frames are made of -/
structure GD where
  N : List Str
  qual : Str
  scope : Scope
  f : Addr
  cd : Value
  body : List Stmt
abbrev GD.env (g : GD) (n0 : Addr) : Env := envOfC g.qual g.scope n0 g.f g.cd
structure GD.Ok (g : GD) : Prop where
  kind : g.scope.kind = .function
  nocell : ∀ n x, (g.env n).cells.lookup x = none
  nokind : ∀ x, g.scope.names.lookup x ≠ some .cell ∧ g.scope.names.lookup x ≠ some .free
section
variable {X : Cx} {pins : List (Addr × Obj)} {σ : L2.St} {H : Hp} {sc s : Shared} {g : GD} {cl : Cl}
end
section
variable {X : Cx} {pins : List (Addr × Obj)} {σ : L2.St} {H : Hp} {sc s : Shared} {g : GD} {cl : Cl}
end
end Dt
namespace Dt
open PySem PySem.Spec PyProof.Rows L2 GenW
end Dt
namespace Dt
open PySem PySem.Spec PyProof.Rows L2 GenW
/-! ### a loop over a generator: the mirror -/
def ends? : Option Out → Bool
  | none => true
  | some (.nx _) => true
  | some (.rt .non _) => true
  | _ => false
/-! ### the states of the consumer -/
section
variable {K : PySem.W.Frag} {cl : Cl} {w : Wf} {L0 Lc Lw L : List Addr} {H0 Hw Hg : Hp} {sd : S} {σ : L2.St}
end
/-! ### contexts without exceptions -/
abbrev nox (X : Cx) : Cx := { X with xe := fun _ _ => False }
section
variable {X
      : Cx} {pins : List (Addr × Obj)} {σ : L2.St} {H : Hp} {s : Shared}
end
end Dt
namespace Dt
open PySem PySem.Spec PyProof.Rows L2 GenW
section
variable {X : Cx} {cl : Cl} {wx : WX} {tg it : Expr} {body : List Stmt} {pos : Pos} {us ts : List Nat} {fa : S → M (List D × S)} {B : GM} {T : D → S → M S} {F : S → M Out} {g : GD} {ar k : Nat}
end
end Dt
namespace Dt
open PySem PySem.Spec PyProof.Rows L2 GenW
/-! ### a generator def's promise -/
section
variable {P : Program} {w : World} {K : PySem.W.Frag} {mg : Str → Option Value} {base : Heap} {f : Addr} {fd : FuncData} {ps N : List Str} {x qual : Str} {params : Arguments} {body : List Stmt} {scope : Scope} {dvs : List V} {kws : List (Str × V)} {k : Nat} {cl : Cl} {B : GM}
end
end Dt
namespace Dt
open PySem PySem.Spec PyProof.Rows L2 GenW
def gArgs (n : Nat) (dd : List D) (fr : S → M (List D × S)) : S → M (List D × S) := fun s => bd (fr s) fun p => if (p.1 ++ dd).length = n then ok (p.1 ++ dd, p.2) else none
section
variable {X : Cx} {cl : Cl} {wx : WX} {k n : Nat} {f : Addr} {fd : FuncData} {ps : List Str} {g : GD} {dvs : List V} {ds : List Value} {dd : List D} {x : Str} {p pos : Pos} {e : Expr} {es : List Expr} {fr : S → M (List D × S)}
end
section
variable {X : Cx} {cl : Cl} {wx : WX} {tg it : Expr} {body : List Stmt} {pos : Pos} {us ts : List Nat} {fa : S → M (List D × S)} {B : GM} {T : D → S → M S} {F : S → M Out} {g : GD} {k n : Nat} {f : Addr} {fd : FuncData} {ps : List Str}
end
end Dt
namespace Dt
open L2 PySem PySem.Spec PyProof.Rows
section
variable {X : Cx} {K : PySem.W.Frag} {cl : Cl}
end
end Dt
namespace Dt
open L2 PySem PySem.Spec PyProof.Rows
/-! ### own exception classes over any built-in base: made -/
/-- what the head says of such a class -/
structure ExcG (K : PySem.W.Frag) (C : Addr) (B newId initId : String) (bmB : List Value) : Prop where
  FB : ExcBaseFacts B newId initId bmB
  SF : StoreFacts B bmB "object.__setattr__" "object"
  ini : PySem.W.excInitIn K C bmB newId = true
  ov : PySem.W.excOver K C bmB = true
  hd : (PySem.W.hasDictIn K C) = true
  sa : PySem.W.findIn K
        (.ref C) "__setattr__" = some (some (.builtin "object.__setattr__"))
  exC : PySem.W.subIn K
        (.ref C) (.type "BaseException") = some true
  tyC : PySem.W.typeIn K
        (.ref C) = some (.type "type")
  kC : PySem.W.keepIn K
        (.ref C) = true
section
variable {X : Cx} {pins : List (Addr × Obj)} {σ : L2.St} {H : Hp} {s : Shared} {a C dx : Addr} {f : Str} {y : V} {u : Value} {fs : List (Str × V)} {Q : Unit → Shared → Prop} {E : Value → Shared → Prop} {A : Around} {B newId initId : String} {bmB : List Value}
theorem uniq_nil : UniqKeys #[] := List.Pairwise.nil
theorem taker_none {K : PySem.W.Frag} (h : PySem.W.findIn K (.ref C) f = some none) : PySem.W.takerIn K C f = some none := by
  unfold PySem.W.takerIn
  rw [h] <;> rfl
/-- a first field is written -/
theorem ostG_new (T : ExcG X.K C B newId initId bmB) (I : Inv X pins σ H s) (e : H a = some (exo a C none)) (hno : PySem.W.findIn X.K (.ref C) f = some none) (ry : RelV y u)
    (h : ∀ dx s', H dx = none
          → dx ≠ a → Inv X pins σ (upd (upd H dx (exd dx [(f, y)])) a (exo a C (some dx))) s' → Q () s') : wpAny (model X.prog X.w) A (setAttr (.ref a) f u) Q E s := by
  obtain ⟨cd, hcd, hh⟩ := PySem.W.any_some T.hd
  (obtain ⟨t1, ho⟩ := exo_at I.hok e)
  obtain ⟨hp, g, d, t, os⟩ := s
  have J : PySem.W.InstAt hp a ({ cls := .ref C, dict := none, data := .fields #[.ref t1, .none, .none, .none, .bool false, .none] } : Obj) C none := ⟨ho, rfl, rfl, trivial⟩
  refine PySem.W.set_plain I.kIn J T.sa (PySem.W.osa_openX T.SF I.kIn J T.ov (taker_none hno) fun b => ?_)
  refine wpAny_bind (wpAny_pure (wpAny_bind (PySem.W.instanceDict_exc ho (PySem.W.looks_clsIn I.kIn hcd) hh ?_)))
  have lt := Heap.lt_size ho
  have hsz : a ≠ hp.objs.size := Nat.ne_of_lt lt
  have hx1 : (hp.push (PySem.W.dictOf [] 0)).get? a = some ({ cls := .ref C, dict := none, data := .fields #[.ref t1, .none, .none, .none, .bool false, .none] } : Obj) := Heap.get?_push_of_some _ ho
  have hnew : ((hp.push (PySem.W.dictOf [] 0)).update a fun o => { o with dict := some hp.objs.size }).Ns1 hp.objs.size fun _ => none :=
    ⟨_, #[], _, (Heap.get?_update_ne _ _ _ _ hsz.symm).trans (Heap.get?_push_at rfl rfl), rfl, fun e he => absurd he (by simp), uniq_nil, fun _ => rfl⟩
  refine PySem.OEX.store_in_old (ns := []) hnew (fun y hy => absurd rfl hy) (by simp) fun h' tk' hn' hs => ?_
  have dn : hp.objs.size ≤ hp.objs.size := Nat.le_refl _
  have k : ∀ b o, b ≠ a → hp.get? b = some o → h'.get? b = some o := fun b o hb q => (hs.2 b (Nat.ne_of_lt (Heap.lt_size q))).trans ((Heap.get?_update_ne _ _ _ _ hb).trans (Heap.get?_push_of_some _ q))
  have hx : h'.get? a = some ({ cls := .ref C, dict := some hp.objs.size, data := .fields #[.ref t1, .none, .none, .none, .bool false, .none] } : Obj) := (hs.2 a hsz).trans (Heap.get?_update_self _ hx1 rfl)
  have hnd : H hp.objs.size = none := I.hok.fresh dn
  have nd : ∀ {b : Addr} {o : Obj}, hp.get? b = some o → b ≠ hp.objs.size := fun {b o} q => Nat.ne_of_lt (Heap.lt_size q)
  have na : ∀ {b : Addr}, H b = none
        → b ≠ a := fun {b} n z => by
    rw [z, e] at n
    cases n
  have Un1 : Un X.fs [] H (upd (upd H hp.objs.size (exd hp.objs.size [(f, y)])) a (exo a C (some hp.objs.size))) hp h' := {
    keep := fun b o q n _ _ => k b o
          (na n) q
    slot := fun b o q n _ _ => ⟨o.slots, k b o
          (na n) q⟩
    free := fun b o q n _ => by rw [upd_ne
          (na n), upd_ne (nd q)]; exact n
    there := fun b o q _ => by
      by_cases hb : b = a
      · (exact ⟨_, by rw [hb]; exact hx⟩)
      · exact ⟨o, k b o hb q⟩
    tups := fun b xs q => by rw [upd_ne
          (at_ne e q exo_tup), upd_ne (ne_of_none q hnd)]; exact q
    frzs := fun b o v q => by rw [upd_ne
          (at_ne e q exo_frz), upd_ne (ne_of_none q hnd)]; exact q
    tbls := fun b ps q => ⟨#[], by rw [upd_ne
          (at_ne e q exo_tbl), upd_ne (ne_of_none q hnd), q]; simp⟩ }
  refine h hp.objs.size _ hnd hsz.symm (I.un (t' := tk') Un1 fun b o q => ?_)
  by_cases hb : b = a
  · subst hb
    rw [upd_same] at q
    cases q
    exact exo_ok hx
  · rw [upd_ne hb] at q
    by_cases hd : b = hp.objs.size
    · subst hd
      rw [upd_same] at q
      cases q
      exact exd_ok hn' (relO_put (fs := []) ry fun g => True.intro)
    · rw [upd_ne hd] at q
      exact (I.hok b o q).stay
            (fun c v hc z => k c v (by
          rcases hc with hc | hc
          · rw [hc]
            exact hb
          · exact (at_ne e hc exo_own)
          ) z)
        (fun c hc => by rw [upd_ne
              (at_ne e hc exo_own), upd_ne (ne_of_none hc hnd)]; exact hc) (fun c xs hc => by rw [upd_ne (at_ne e hc exo_tup), upd_ne (ne_of_none hc hnd)]; exact hc)
/-- one more field is written -/
theorem ostG_old (T : ExcG X.K C B newId initId bmB) (I : Inv X pins σ H s) (e : H a = some (exo a C (some dx))) (ed : H dx = some (exd dx fs)) (hl : fs.length ≤ 900) (hno : PySem.W.findIn X.K (.ref C) f = some none) (ry : RelV y u)
    (h : ∀ s', Inv X pins σ (upd H dx (exd dx ((f, y) :: fs))) s'
          → Q () s') : wpAny (model X.prog X.w) A (setAttr (.ref a) f u) Q E s := by
  obtain ⟨cd, hcd, hh⟩ := PySem.W.any_some T.hd
  (obtain ⟨t1, ho⟩ := exo_at I.hok e)
  (obtain ⟨mA, hns, rel⟩ := exd_at I.hok ed)
  have hw := within_of rel
  obtain ⟨hp, g, d, t, os⟩ := s
  (obtain ⟨oD, _, _, hoD, _, _⟩ := hns.count hw)
  have J : PySem.W.InstAt hp a ({ cls := .ref C, dict := some dx, data := .fields #[.ref t1, .none, .none, .none, .bool false, .none] } : Obj) C (some oD) := ⟨ho, rfl, rfl, hoD⟩
  refine PySem.W.set_plain I.kIn J T.sa (PySem.W.osa_openX T.SF I.kIn J T.ov (taker_none hno) fun b => ?_)
  have key : ∀ {Q : Option Addr → Shared → Prop} {E : Value → Shared → Prop} {A : Around} {tk : Nat}, Q (some dx) ⟨hp, g, d, tk, os⟩ → wpAny (model X.prog X.w) A (instanceDict a true) Q E ⟨hp, g, d, tk, os⟩ := fun {Q E A tk} q => by
    unfold instanceDict
    (refine wpAny_bind (wpAny_loadPart ho ?_))
    dsimp only
    refine wpAny_bind ((PySem.W.looks_clsIn (M := model X.prog X.w) I.kIn hcd).at ?_)
    rw [hh]
    exact wpAny_pure q
  refine wpAny_bind (wpAny_pure (wpAny_bind (key ?_)))
  refine PySem.OEX.store_in_old hns hw (by rw [List.length_map]; omega) fun h' tk' hn hs => ?_
  have k : ∀ b o, b ≠ dx → hp.get? b = some o → h'.get? b = some o := fun b o hb q => (hs.2 b hb).trans q
  have hd
        : ∃ o, h'.get? dx = some o := by
    obtain ⟨o, es, ep, e', _⟩ := hn
    exact ⟨o, e'⟩
  (exact h _ (I.write (t' := tk') (x := dx) (e := dx) (o := exd dx ((f, y) :: fs)) (by rw [ed]; exact True.intro) (.inl rfl) k hd (exd_ok hn (relO_put ry rel))))
/-- the base's own __init__: nothing of it is told -/
theorem oinitG_ok {us : List Value} {Q : Value → Shared → Prop} (T : ExcG X.K C B newId initId bmB) (I : Inv X pins σ H s) (e : H a = some (exo a C none)) (hl : us.length ≤ sizeLine) (h : ∀ s', Inv X pins σ H s' → Q .none s') :
    wpAny (model X.prog X.w) A (call (.builtin initId) (.ref a :: us)) Q E s := by
  obtain ⟨nm, N, q, bs, bm, hdct, sn, sub, ab, col, dd, k0, k1, k2, k3, k5, hC, hT⟩ := PySem.W.excInit_of I.kIn T.ini
  (obtain ⟨t1, ho⟩ := exo_at I.hok e)
  obtain ⟨hp, g, d, t, os⟩ := s
  refine wpAny_call (PySem.HandSPX.init_base T.FB hT hC ho hl fun h' t2 k hx => ?_)
  (have J := I.write (t' := t) (x := a) (e := a) (o := exo a C none) (by rw [e]; exact True.intro) (.inl rfl) k ⟨_, hx⟩ (exo_ok hx))
  have eu
        : upd H a (exo a C none) = H := by
    funext b
    by_cases hb : b = a
    · rw [hb, upd_same, e]
    · rw [upd_ne hb]
  rw [eu] at J
  exact h _ J
end
end Dt
namespace Dt
open L2 PySem PySem.Spec PyProof.Rows
/-! ### S.__init__(self, ..) of an own class whose __init__ is a built-in one's -/
structure SInit (K : PySem.W.Frag) (S : Addr) (initId : String) : Prop where
  ga : PySem.W.specialIn K (.ref S) "__getattribute__" = some (some (.builtin "type.__getattribute__"))
  rd : PySem.W.readsIn K S (.type "type") = true
  at_ : PySem.W.findCls K (.ref S) (.type "type") "__init__" = some (.val (.builtin initId))
  hh : PySem.W.handedIn (.builtin initId) = true
def tSI (C : Addr) (ta : TA) : TE := fun σ H Q => ta σ H fun vs H1 => ∃ (a : Addr) (ws : List V), vs = .ref a :: ws ∧ ws.length ≤ 1000 ∧ H1 a = some (exo a C none) ∧ Q .non H1
section
variable {X : Cx} {o e : Expr} {es : List Expr} {to te : TE} {ta : TA} {f x : Str} {p p' p1 p2 pos : Pos} {C S : Addr} {B newId initId : String} {bmB : List Value}
theorem pe_sinit {pl : Sem Bool} (T : ExcG X.K C B newId initId bmB) (SI : SInit X.K S initId) (hm : X.mg x = some (.ref S)) (ha : PA X (e :: es) ta) (hg : Gl X x := by rfl) (hdb : (x == ("__debug__" : Str)) = false := by decide)
    (hc : eval (.Call (.Attribute (.Name x p1) "__init__" p2) (e :: es) [] pos) X.env = (do
      let ov ← eval (.Name x p1) X.env
      standAt p2.atName
      let (f, first) ← holding [ov]
            (getMethod ov "__init__" pl)
      callWith pos f first
            (backTo pos (starEach (e :: es) X.env)) (backToKw pos (keywordEach [] X.env))) := by rfl)
    (he : starEach (e :: es) X.env = (false, eval e X.env) :: starEach es X.env := by rfl) (hpl
          : (backTo pos (starEach es X.env)).any (·.1) = false := by rfl) :
    PE X (.Call (.Attribute (.Name x p1) "__init__" p2) (e :: es) [] pos) (tSI C ta) := by
  (refine ⟨fun pins s σ H Q I h => ?_⟩)
  refine PySem.W.methodCall_KW (ld_glob I hg hm ?_ hdb) hc
  refine PySem.W.method_cls I.kIn SI.ga (PySem.W.cls_value I.kIn SI.rd SI.at_ SI.hh ?_)
  show wpAny _ _ (callWith pos (Value.builtin initId) [] (backTo pos (starEach (e :: es) X.env)) []) _ _ _
  refine PyProof.Rows.callWith_method1 (thn (ha.run pos pins _ σ H _ (I.tok _) h) fun us s1 ⟨vs, H1, I1, r1, a, ws, ev, hl, ea, q⟩ => ?_) he hpl
  subst ev
  cases r1 with
  | @cons _ u0 _ ur ra rw' =>
    (obtain rfl : u0 = Value.ref a := ra)
    have hlen
          : ur.length ≤ sizeLine := by
      (rw [← Paired.length rw', sizeLine_eq])
      omega
    exact oinitG_ok T I1 ea hlen fun s' J => ⟨.non, H1, J, rfl, q⟩
/-- self.f = e -/
def tOsG (C : Addr) (f : Str) (to te : TE) : TS := fun D σ H => te σ H fun y H1 => to σ H1 fun x H2 => ∃ a : Addr, x = .ref a ∧
  ((H2 a = some (exo a C none) ∧ ∀ dx, H2 dx = none
        → dx ≠ a → D.nx σ (upd (upd H2 dx (exd dx [(f, y)])) a (exo a C (some dx)))) ∨
    ∃ (dx : Addr) (fs
          : List (Str × V)), H2 a = some (exo a C (some dx)) ∧ H2 dx = some (exd dx fs) ∧ fs.length ≤ 900 ∧ D.nx σ (upd H2 dx (exd dx ((f, y) :: fs))))
theorem ps_ostG (T : ExcG X.K C B newId initId bmB) (hno : PySem.W.findIn X.K (.ref C) f = some none) (ho : PE X o to) (he : PE X e te) (hs : swapsWith e (some (.Attribute o f p')) pos.line X.env = pure false := by rfl) : PS X (.Assign [.Attribute o f p'] e pos) (tOsG C f to te) := by
  (refine ⟨fun pins s σ H D I h => ?_⟩)
  refine plainObj_wpAny_Assign_Attribute (thn (he.run pins s σ H _ I h) fun v s1 ⟨y, H1, I1, r1, q1⟩ => thn (ho.run pins s1 σ H1 _ I1 q1) fun u s2 ⟨x, H2, I2, r2, a, ex, q⟩ => ?_) hs
  subst ex
  (obtain rfl : u = Value.ref a := r2)
  (rcases q with ⟨ea, q⟩ | ⟨dx, fs, ea, ed, hl, q⟩)
  · exact ostG_new T I2 ea hno r1 fun dx s' n ne J => ⟨σ, _, J, q dx n ne⟩
  · exact ostG_old T I2 ea ed hl hno r1 fun s' J => ⟨σ, _, J, q⟩
end
/-! ### what __init__ promises -/
/-- the object, and where it has one its dict -/
def exH (H : Hp) (a C dx : Addr) (fs : List (Str × V)) : Hp := upd (upd H a (exo a C (some dx))) dx (exd dx fs)
theorem exH_a {H : Hp} {a C dx : Addr} {fs : List (Str × V)} (h : dx ≠ a) : exH H a C dx fs a = some (exo a C (some dx)) := by
  unfold exH
  rw [upd_ne (Ne.symm h), upd_same]
theorem exH_d {H : Hp} {a C dx : Addr} {fs : List (Str × V)} : exH H a C dx fs dx = some (exd dx fs) := upd_same
theorem exH_new {H : Hp} {a C dx : Addr} {fs : List (Str × V)} (h : dx ≠ a) : upd (upd H dx (exd dx fs)) a (exo a C (some dx)) = exH H a C dx fs := by
  funext b
  unfold exH
  by_cases h1 : b = a
  · subst h1
    rw [upd_same, upd_ne (Ne.symm h), upd_same]
  · by_cases h2 : b = dx
    · subst h2
      rw [upd_ne h1, upd_same, upd_same]
    · rw [upd_ne h1, upd_ne h2, upd_ne h2, upd_ne h1]
def spEx (C : Addr) (names : List Str) : Sp := fun vs H Q _ => ∃ (a : Addr) (ws : List V), vs = .ref a :: ws ∧ ws.length = names.length ∧ H a = some (exo a C none) ∧ ∀ dx, H dx = none → dx ≠ a → Q .non (exH H a C dx (names.zip ws).reverse)
section
variable {X : Cx} {C S : Addr} {f g k x self : Str} {e : Expr} {to : TE} {p p1 p2 p3 p4 p5 p6 p7 p8 p9 pos pos1 pos2 pos3 pos4 : Pos} {B newId initId : String} {bmB : List Value} {tx : Str} {j : Nat}
/-- def __init__(self, f): S.__init__(self, 'text'); self.f = f -/
theorem init1 {N : List Str} (T : ExcG X.K C B newId initId bmB) (SI : SInit X.K S initId) (hm : X.mg x = some (.ref S)) (hno : PySem.W.findIn X.K (.ref C) f = some none)
    (v0 : ∀ pos, PE X (.Name self pos) (tVar 0)) (v1 : ∀ pos, PE X (.Name f pos) (tVar 1)) (hS : PE X (.Call (.Attribute (.Name x p1) "__init__" p2) [.Name self p3, .Constant (.str tx) j p4] [] pos) (tSI C (tCons (tVar 0) (tCons (tC (.str tx)) tNil))))
    (hsw : swapsWith (.Call (.Attribute (.Name x p1) "__init__" p2) [.Name self p3, .Constant (.str tx) j p4] [] pos) none pos1.line X.env = pure false) (hs1 : swapsWith (.Name f p6) (some (.Attribute (.Name self p5) f p7)) pos2.line X.env = pure false)
    {vs : List V} {H : Hp} {Q : VK} {E : XK} (hN : 2 ≤ N.length) (h : spEx C [f] vs H Q E) :
    ∃ t, PSs X [.Expr (.Call (.Attribute (.Name x p1) "__init__" p2) [.Name self p3, .Constant (.str tx) j p4] [] pos) pos1, .Assign [.Attribute (.Name self p5) f p7] (.Name f p6) pos2] t ∧ t { nx := fun _ H' => Q .non H', rt := Q } (start N vs) H := by
  refine ⟨_, pss_cons (ps_expr hS hsw) (pss_one (ps_ostG T hno (v0 _) (v1 _) hs1)), ?_⟩
  obtain ⟨a, ws, rfl, hl, ha, q⟩ := h
  obtain ⟨y, rfl⟩ : ∃ y, ws = [y] := List.length_eq_one_iff.mp hl
  have s0 : (start N [V.ref a, y])[0]? = some (some (.ref a)) := rfl
  have s1 : (start N [V.ref a, y])[1]? = some (some y) := rfl
  refine ⟨.ref a, s0, a, [.str tx], rfl, by simp, ha, y, s1, .ref a, s0, a, rfl, .inl ⟨ha, fun dx n ne => ?_⟩⟩
  have z := q dx n ne
  rw [exH_new ne]
  exact z
end
/-! ### C(e, ..), an exception that is raised at once -/
def tMkG (C : Addr) (names : List Str) (ta : TA) : L2.St → Hp → XK → Prop := fun σ H Q => ta σ H fun vs H1 => vs.length = names.length ∧ ∀ d, H1 d = none → Q (.ref C) (some d) (upd H1 d (.xd (names.zip vs).reverse))
section
variable {X : Cx} {CX : CXT} {C fI : Addr} {k : Nat} {fd : FuncData} {ps names : List Str} {x : Str} {e : Expr} {es : List Expr} {ta : TA} {p pos : Pos} {B newId initId : String} {bmB : List Value}
theorem pmk_exG (T : ExcG X.K C B newId initId bmB) (iC : PySem.W.findIn X.K (.ref C) "__init__" = some (some (.ref fI))) (tI : PySem.W.typeIn X.K (.ref fI) = some (.type "function"))
    (F1 : FnG X.prog X.w X.K X.mg X.base (L2.CX X.prog X.w) k fI fd ps (spEx C names)) (hgd : X.A.guards = some []) (hr : Room (k + 1) X.A) (hb : Binds X.K fd ps []) (hm : X.mg x = some (.ref C)) (hz : names.length ≤ 1000) (ha : PA X (e :: es) ta)
    (hg : Gl X x := by rfl) (hdb : (x == ("__debug__" : Str)) = false := by decide) (he : starEach (e :: es) X.env = (false, eval e X.env) :: starEach es X.env := by rfl) (hpl : (backTo pos (starEach es X.env)).any (·.1) = false := by rfl) :
    PMk X (.Call (.Name x p) (e :: es) [] pos) (tMkG C names ta) := by
  intro pins s σ H Q I h
  obtain ⟨nm, N, q, bs, bm, hdct, sn, sub, ab, col, dd, k0, k1, k2, k3, k5, hC, hT⟩ := PySem.W.excInit_of I.kIn T.ini
  (refine wpAny_Call_Name_kw (ld_glob I hg hm ?_ hdb))
  refine PySem.W.callWith_K (h₀ := X.base) I.ok.mod.kin T.kC (thn (ha.run pos pins s σ H _ I h) fun us s1 ⟨vs, H1, I1, r1, hl, q1⟩ => ⟨I1.kIn, ?_⟩) he hpl
  (show wpAny _ _ (call (.ref C) us) _ _ _)
  obtain ⟨_, _, _, _, _, _, _, _, _, _, _, _, _, _, _, _, hC1, hT1⟩ := PySem.W.excInit_of I1.kIn T.ini
  (obtain ⟨hp, g, dr, tk, os⟩ := s1)
  (have hsz : hp.objs.size ≤ hp.objs.size + 1 := Nat.le_succ _)
  (have hn : H1 (hp.objs.size + 1) = none := I1.hok.fresh hsz)
  (have kk : ∀ b o, hp.get? b = some o → ((hp.push (PySem.W.kdv_tup us)).push (PySem.HandSPX.excO C hp.objs.size)).get? b = some o := fun b o e => Heap.get?_push_of_some _ (Heap.get?_push_of_some _ e))
  (have hget : ((hp.push (PySem.W.kdv_tup us)).push (PySem.HandSPX.excO C hp.objs.size)).get? (hp.objs.size + 1) = some (PySem.HandSPX.excO C hp.objs.size) := by heap_get)
  have I2
        : Inv X pins σ (upd H1 (hp.objs.size + 1) (exo (hp.objs.size + 1) C none)) ⟨(hp.push (PySem.W.kdv_tup us)).push (PySem.HandSPX.excO C hp.objs.size), g, dr, tk, os⟩ :=
    I1.laid
          (t' := tk) (a := hp.objs.size + 1) (o := exo (hp.objs.size + 1) C none) (h' := (hp.push (PySem.W.kdv_tup us)).push (PySem.HandSPX.excO C hp.objs.size)) kk hsz (exo_ok hget)
  (have r2 : Vals (V.ref (hp.objs.size + 1) :: vs) (Value.ref (hp.objs.size + 1) :: us) := .cons rfl r1)
  have hq : spEx C names (V.ref (hp.objs.size + 1) :: vs) (upd H1 (hp.objs.size + 1) (exo (hp.objs.size + 1) C none))
      (fun v H2 => v = .non ∧ ∃ (d : Addr) (fs : List (Str × V)), H2 (hp.objs.size + 1) = some (exo (hp.objs.size + 1) C (some d)) ∧ H2 d = some (exd d fs) ∧ H1 d = none ∧ Q (.ref C) (some d) (upd (del H2 (hp.objs.size + 1)) d (.xd fs))) (fun _ _ _ => False) := by
    refine ⟨_, vs, rfl, hl, upd_same, fun dx n ne => ⟨rfl, dx, _, exH_a ne, exH_d, ?_, ?_⟩⟩
    · rw [upd_ne ne] at n
      exact n
    · have n' := n
      rw [upd_ne ne] at n'
      have e : upd (del (exH (upd H1 (hp.objs.size + 1) (exo (hp.objs.size + 1) C none)) (hp.objs.size + 1) C dx (names.zip vs).reverse) (hp.objs.size + 1)) dx (.xd (names.zip vs).reverse) = upd H1 dx (.xd (names.zip vs).reverse) := by
        funext b
        by_cases h1 : b = dx
        · subst h1
          rw [upd_same, upd_same]
        · rw [upd_ne h1, upd_ne h1]
          by_cases h2 : b = hp.objs.size + 1
          · rw [h2, del_same, hn]
          · rw [del_ne h2]
            unfold exH
            rw [upd_ne h1, upd_ne h2, upd_ne h2]
      rw [e]
      exact q1 dx n'
  have hlb : (Value.ref (hp.objs.size + 1) :: us ++ ([] : List Value)).length = ps.length := by
    have e := r2.length
    rw [F1.len _ _ _ _ hq] at e
    rw [List.append_nil]
    exact e.symm
  have hus
        : us.length ≤ sizeLine := by
    (rw [← Paired.length r1, sizeLine_eq])
    omega
  have bnd := hb ⟨(hp.push (PySem.W.kdv_tup us)).push (PySem.HandSPX.excO C hp.objs.size), g, dr, tk, os⟩ (Value.ref (hp.objs.size + 1) :: us) I2.kIn hlb
  rw [List.append_nil] at bnd
  refine wpAny_call (PySem.HandSPX.call_own T.FB hT1 hC1 (PySem.W.looks_findIn I1.kIn iC) (fun self => PySem.W.bind_fn I1.kIn self tI) hus
    (codeAny_mono (F1.go _ X.stack _ _ ⟨Value.ref (hp.objs.size + 1) :: us, []⟩ (Value.ref (hp.objs.size + 1) :: us) _ _ (fun _ _ _ => False) (guards_make hgd) (hr.make C us []) (I2.env0.make C us []) bnd r2 hq) fun r s' hq' => ?_))
  match r, hq' with
  | .error er, hq' =>
    obtain ⟨_, _, _, _, _, _, _, _, _, _, _, _, z⟩ := hq'
    exact z.elim
  | .ok (.ret u), hq' =>
    (obtain ⟨v, H2, os2, bare2, un2, hok2, rv, ev, d, fs, ea, ed, hd1, q2⟩ := hq')
    subst ev
    (obtain ⟨h2, g2, d2, t2, os'⟩ := s')
    (exact ⟨rv, mk_end (raises_own T.exC T.tyC) I1 hsz kk un2 hok2 os2 bare2 ea ed hd1 q2⟩)
  | .ok .next, hq' => exact False.elim hq'
  | .ok .brk, hq' => exact False.elim hq'
  | .ok .cont, hq' => exact False.elim hq'
end
end Dt
namespace Dt
open L2 PySem PySem.Spec PyProof.Rows
/-! ### {'k': e, ..}, a new dict with written keys -/
section
variable {X : Cx} {cl : Cl} {wx : WX} {pos p0 : Pos} {k v : Expr} {keys : List (Option Expr)} {values : List Expr} {ks : List Key} {k0 : Key} {fr : S → M (List D × S)} {f : S → M (D × S)}
end
end Dt
namespace Dt
open L2 PySem PySem.Spec PyProof.Rows
section
variable {K : PySem.W.Frag} {cl : Cl} {w : Wf} {L L' : List Addr} {s1 sE : S} {σ : L2.St} {H1 H2 : Hp} {p : Addr} {o : HO}
/-- a hidden new address is the def's own (or is let go) -/
theorem Wl.less (W1 : Wl K cl w L s1 σ H1) (np : H1 p = none) (sh : Same (hide (L ++ w.O0) H1) (hide (L ++ (w.more p).O0) H2)) (W' : Wl K cl (w.more p) L sE σ H2) (h2 : ∀ a ∈ L', a ∈ L ∨ a = p) (h3 : ∀ a ∈ L, a ∈ L') : Wl K cl w L' sE σ H2 := by
  have z := Wl.back (vs := []) (σ := σ) (s1 := s1) (sE := sE) (by exact W') W1 np sh (by simp) L' h2 h3
  exact z
end
end Dt
namespace Dt
open L2 PySem PySem.Spec PyProof.Rows
section
variable {K : PySem.W.Frag} {cl : Cl} {w : Wf} {L : List Addr} {s : S} {σ : L2.St} {H : Hp} {p : Addr} {o : HO}
/-- a hidden object is changed -/
theorem Wl.hid (W : Wl K cl w L s σ H) (hp : p ∈ w.O0) (hI : p ∉ w.I) (h0 : w.H0 p = none) : Wl K cl w L s σ (upd H p o) := by
  have hh : hide (L ++ w.O0) (upd H p o) = hide (L ++ w.O0) H := hide_in (List.mem_append_right _ hp)
  have own : ∀ {a d}, a ≠ p → OwnAt K cl w.H0 (L ++ w.O0) H a d → OwnAt K cl w.H0 (L ++ w.O0) (upd H p o) a d := fun {a d} n q => q.move (upd_ne n) (by rw [hh]; exact Same.refl _)
  refine ⟨fun b u n e => ?_, W.fresh, fun b hb => ?_, W.disj, W.sub, ⟨fun i d e => ?_, fun i d e => ?_, fun i d e => ?_, W.st.inj, W.st.ioj, W.st.len, W.st.tr.same (by rw [hh]; exact Same.refl _) rfl fun x hx _ _ => ⟨upd_ne fun z => hx.elim (fun y => W.disj x y (z ▸ hp)) fun y => hI (z ▸ y), hx⟩⟩⟩
  · rw [upd_ne (fun z => by rw [z, h0] at e; cases e)]
    exact W.keep b u n e
  · by_cases z : b = p
    · rw [z, upd_same]; simp
    · rw [upd_ne z]; exact W.alive b hb
  · obtain ⟨v, q1, q2⟩ := W.st.val i d e
    exact ⟨v, q1, by rw [hh]; exact q2⟩
  · obtain ⟨a, q1, q2, q3⟩ := W.st.own i d e
    exact ⟨a, q1, q2, own (fun z => W.disj a q2 (z ▸ hp)) q3⟩
  · obtain ⟨q1, q2, q3⟩ := W.st.io i d e
    exact ⟨q1, q2, own (fun z => hI (z ▸ q2)) q3⟩
end
section
variable {X : Cx} {cl : Cl} {wx : WX} {pos : Pos} {keys : List (Option Expr)} {values : List Expr} {ks : List Key} {fr : S → M (List D × S)}
end
end Dt
namespace Dt
open L2 PySem PySem.Spec PyProof.Rows
/-! ### lists of new dicts -/
section
variable {X : Cx} {K : PySem.W.Frag} {cl : Cl} {wx : WX} {pos : Pos} {w : Wf} {L : List Addr} {sd : S} {σ : L2.St} {H : Hp} {f : S → M (D × S)} {e : Expr}
end
end Dt
namespace Dt
open L2 PySem PySem.Spec PyProof.Rows
/-! ### f(..)[:n] of a new list of new dicts -/
section
variable {X : Cx} {cl : Cl} {wx : WX} {pos p2 p3 : Pos} {a : Expr} {fa : S → M (D × S)} {j : Nat} {n : Int}
end
end Dt
namespace Dt
open L2 PySem PySem.Spec PyProof.Rows
/-! ### for x in a new list of new dicts -/
section
variable {K : PySem.W.Frag} {cl : Cl} {w : Wf} {L L' : List Addr} {s : S} {σ : L2.St} {H : Hp} {O' : List Addr}
end
end Dt
namespace Dt
open L2 PySem PySem.Spec PyProof.Rows
end Dt
namespace Dt
open L2 PySem PySem.Spec PyProof.Rows
section
variable {X : Cx} {cl : Cl} {wx : WX} {pos p0 : Pos} {body : List Stmt} {ts : List Nat} {F : S → M Out} {fi : S → M (D × S)} {it : Expr}
end
end Dt
namespace Dt
open L2 PySem PySem.Spec PyProof.Rows
/-! ### plain data reads no dicts -/
/-! ### for x in a new list of new dicts -/
section
variable {K : PySem.W.Frag} {cl : Cl} {wx : WX} {w : Wf} {L L' : List Addr} {s : S} {σ : L2.St} {H : Hp} {as : List Addr} {p : Addr}
end
section
variable {X : Cx} {cl : Cl} {wx : WX} {pos p0 : Pos} {body : List Stmt} {ts : List Nat} {F : S → M Out} {fi : S → M (D × S)} {it : Expr}
end
end Dt
namespace Dt
open L2 PySem PySem.Spec PyProof.Rows
/-! ### {k: v for ..} -/
section
variable {X : Cx} {K : PySem.W.Frag} {cl : Cl} {wx : WX} {pos : Pos} {w : Wf} {L : List Addr} {sd : S} {σ : L2.St} {H : Hp}
end
/-! ### what a dict holds -/
def getK (k : Key) : List Key → List D → Option D
  | k0 :: ks, d0 :: ds => if k0 = k then some d0 else getK k ks ds
  | _, _ => none
/-- d[k], an own dict -/
def dOwnDGet (i : Nat) (fk : S → M (D × S)) : S → M (D × S) := fun s => match ownD s[i]? with
  | some (.dic _ _) => bd (fk s) fun q => match ownD q.2[i]?, kD q.1 with
    | some (.dic ks ds), some k => match getK k ks ds with
      | some d => ok (d, q.2)
      | none => none
    | _, _ => none
  | _ => none
/-- d[k], a dict as a value -/
def getD : Op2 := fun d e => match d, kD e with
  | .dic ks ds, some k => match getK k ks ds with
    | some d => ok d
    | none => none
  | _, _ => none
/-- k in d, a dict as a value -/
def inV : Op2 := fun d e => match e, kD d with
  | .dic ks _, some k => ok (.bl (hasK k ks))
  | _, _ => none
def ninV : Op2 := fun d e => match e, kD d with
  | .dic ks _, some k => ok (.bl (!hasK k ks))
  | _, _ => none
section
variable {X : Cx} {K : PySem.W.Frag} {cl : Cl} {wx : WX} {pos p0 : Pos} {e o : Expr} {f fk fd : S → M (D × S)}
end
end Dt
namespace Dt
open L2 PySem PySem.Spec PyProof.Rows
/-! ### the head's look, with the interpreter's own statics -/
/-! ### max of a tuple of ints -/
section
variable {prog : Program} {w : World} {A : Around} {E : Value → Shared → Prop} {s : Shared} {l : Addr}
end
/-! ### C.f, an int of the class -/
def cvalB (K : PySem.W.Frag) (C f : Str) (n : Int) : Bool := PySem.W.readsIn K (He.ga K C) (.type "type") && (He.eqO (PySem.W.specialIn K (.ref (He.ga K C)) "__getattribute__") (some (some (.builtin "type.__getattribute__"))) &&
  (match PySem.W.findCls K (.ref (He.ga K C)) (.type "type") f with
    | some (.val (.int i _)) => decide (i = n)
    | _ => false))
theorem cval_of {K : PySem.W.Frag} {C f : Str} {n : Int} (h : cvalB K C f n = true) : ClX.CRead K (He.ga K C) (.type "type") ∧ ∃ u, ClX.CVal K (He.ga K C) (.type "type") f (.int n) u := by
  obtain ⟨h1, h⟩ := He.ba h
  obtain ⟨h2, h3⟩ := He.ba h
  refine ⟨⟨h1, He.eqO_ok h2⟩, ?_⟩
  split at h3
  · next i t e =>
    have e2 : i = n := of_decide_eq_true h3
    subst e2
    exact ⟨_, e, ⟨t, rfl⟩⟩
  · cases h3
section
variable {X : Cx} {cl : Cl} {wx : WX} {pos p0 p2 : Pos} {e : Expr} {f : S → M (D × S)} {x : Str}
theorem d_cval {C : Addr} {fl : Str} {n : Int} {mc u : Value} (hm : X.mg x = some (.ref C)) (r : ClX.CRead X.K C mc) (k : ClX.CVal X.K C mc fl (.int n) u) (hg : Gl X x := by rfl) (hd : (x == ("__debug__" : Str)) = false := by decide)
    (hb : attributeBase (.Name x p0) fl X.env (eval (.Name x p0) X.env) = eval (.Name x p0) X.env := by rfl) : PE X (.Attribute (.Name x p0) fl pos) (TEof X.K cl wx (dC (.int n))) := by
  refine iE (ClX.pe_cval (pe_glob hg hm (v := .ref C) rfl hd) hb) ?_
  rintro σ H Q ⟨w, L, sd, W, h⟩
  exact ⟨C, mc, .int n, u, rfl, r, k, h (.int n) H .refl W (.int n)⟩
/-! ### isinstance(x, (T, U)) -/
def isTU (T U : String) (d : D) : M D := match tyD d with
  | some a => match kitB a T, kitB a U with
    | some b, some c => ok (.bl (b || c))
    | _, _ => none
  | none => none
def dIsiTU (T U : String) (f : S → M (D × S)) : S → M (D × S) := fun s => bd (f s) fun p => bd (isTU T U p.1) fun r => ok (r, p.2)
/-! ### isinstance(x, C), C the class of x -/
def insB (K : PySem.W.Frag) (C : Str) : Bool := He.eqO (PySem.W.findIn K (.ref (He.ga K C)) "__class__") (some (some (.builtin "object.__class__"))) && (He.eqO (PySem.W.specialIn K (.builtin "object.__class__") "__get__") (some (some (.builtin "getset_descriptor.__get__"))) &&
  (decide (PySem.W.takesIn K (.builtin "object.__class__") = some true) && (decide (PySem.W.mroIn K (He.ga K C) (.type "object") = some true) && decide (PySem.W.kitOne K (.ref (He.ga K C)) (.ref (He.ga K C)) = some true))))
theorem ins_of {K : PySem.W.Frag} {C : Str} (c : Cls K (He.ga K C)) (h : insB K C = true) : C8.InsC K (He.ga K C) := by
  obtain ⟨h1, h⟩ := He.ba h
  obtain ⟨h2, h⟩ := He.ba h
  obtain ⟨h3, h⟩ := He.ba h
  obtain ⟨h4, h5⟩ := He.ba h
  exact ⟨c, He.eqO_ok h1, He.eqO_ok h2, of_decide_eq_true h3, of_decide_eq_true h4, of_decide_eq_true h5⟩
def isC (c : Str) (d : D) : M D := match d with
  | .obj c' _ => if c' = c then ok (.bl true) else none
  | _ => none
def dIsC (c : Str) (f : S → M (D × S)) : S → M (D × S) := fun s => bd (f s) fun p => bd (isC c p.1) fun r => ok (r, p.2)
/-! ### x, y = ({}, e) -/
end
section
variable {X : Cx} {K : PySem.W.Frag} {cl : Cl} {wx : WX} {pos : Pos} {e : Expr} {f : S → M (D × S)}
end
/-! ### o.m(k = e, ..) -/
def dMethK (c : Str) (n nk : Nat) (g : FnD) (gD : List D → List D → List D) (fo : S → M (D × S)) (fk : S → M (List D × S)) : S → M (D × S) := fun s => bd (fo s) fun o => match o.1 with
  | .obj c' _ => if c' = c then bd (fk o.2) fun q => if q.1.length = nk ∧ (gD [o.1] q.1).length = n then bdC (g (gD [o.1] q.1)) q.2 fun r => ok (r, q.2) else none else none
  | _ => none
section
variable {X : Cx} {CX : CXT} {k n : Nat} {f C : Addr} {fd : FuncData} {ps ks : List Str} {m c : Str} {p pos apos : Pos} {o : Expr} {kws : List Keyword} {cl : Cl} {wx : WX} {fo : S → M (D × S)} {fk : S → M (List D × S)} {g : FnD} {names : List Str}
  {gv : List Value → List Value → List Value} {gV : List V → List V → List V} {gD : List D → List D → List D}
end
end Dt
namespace Dt
open L2 PySem PySem.Spec PyProof.Rows
/-! ### y = {k: v for ..} on one line, y a local -/
section
variable {X : Cx}
end
section
variable {X : Cx} {K : PySem.W.Frag} {cl : Cl} {wx : WX}
end
end Dt
namespace Dt
open L2 PySem PySem.Spec PyProof.Rows
/-! ### lists or tuples -/
section
variable {X : Cx} {K : PySem.W.Frag} {cl : Cl} {wx : WX} {pos p : Pos} {e l tg : Expr} {fa : S → M (D × S)} {fr : S → M (List D × S)}
end
section
variable {X : Cx} {cl : Cl} {wx : WX} {pos p0 p2 : Pos} {e : Expr} {es : List Expr} {f : S → M (D × S)} {fr : S → M (List D × S)}
end
/-! ### own[lo:hi], a new list -/
section
variable {X : Cx} {cl : Cl} {wx : WX} {pos p0 p2 : Pos} {lo hi : Option Expr} {fl fh : S → M (Option Int × S)}
end
/-! ### x, y = (a new list, {}) -/
section
variable {X : Cx} {K : PySem.W.Frag} {cl : Cl} {wx : WX} {pos : Pos} {e : Expr} {f : S → M (D × S)}
end
end Dt
namespace Dt
open L2 PySem PySem.Spec PyProof.Rows
/-! ### for over enumerate(own), an own list that stays as long as it is -/
section
variable {X : Cx} {cl : Cl} {wx : WX} {pos p1 : Pos} {body : List Stmt} {ts us : List Nat} {F : S → M Out} {T : D → S → M S} {elts : List Expr} {kk : Nat} {tpos : Pos}
end
end Dt
namespace Dt
open L2 PySem PySem.Spec PyProof.Rows
/-! ### list(range(n)), list(range(i, j, c)) -/
def rgOk1 (n : Int) : Prop := -(2 ^ 62) ≤ n ∧ n ≤ 2 ^ 24
instance (n : Int) : Decidable (rgOk1 n) := by unfold rgOk1; infer_instance
def rgOkC (i j c : Int) : Prop := c ≠ 0 ∧ c.natAbs < 1073741824 ∧ Builtin.Range.small i j c = true ∧ 0 ≤ Builtin.Range.rangeSize i j c ∧ Builtin.Range.rangeSize i j c ≤ 2 ^ 24
instance (i j c : Int) : Decidable (rgOkC i j c) := by unfold rgOkC; infer_instance
section
variable {X : Cx} {K : PySem.W.Frag} {cl : Cl} {wx : WX} {pos p p2 pos2 : Pos} {a b c : Expr} {fr : S → M (List D × S)} {w : Wf} {L : List Addr} {sd : S} {σ : L2.St} {H : Hp}
end
end Dt
namespace Dt
open L2 PySem PySem.Spec PyProof.Rows
/-! ### C.m(..), m a classmethod of C -/
def cmB (K : PySem.W.Frag) (C m : Str) : Bool := PySem.W.readsIn K (He.ga K C) (.type "type") && (He.eqO (PySem.W.specialIn K (.ref (He.ga K C)) "__getattribute__") (some (some (.builtin "type.__getattribute__"))) &&
  ((match PySem.W.findCls K (.ref (He.ga K C)) (.type "type") m with
    | some (.get (.builtin id) (.ref p) .none (.ref D)) => decide (id = "classmethod.__get__") && (decide (p = He.ma K (He.ga K C) m) && decide (D = He.ga K C))
    | _ => false) && PySem.W.fnIn K ((At.clsm C m).adr K)))
theorem cm_of {K : PySem.W.Frag} {C m : Str} (h : cmB K C m = true) (h0 : (At.clsm C m).ok K = true) : ClX.CRead K (He.ga K C) (.type "type") ∧ ClX.CMet K (He.ga K C) (.type "type") m (He.ma K (He.ga K C) m) ((At.clsm C m).adr K) := by
  obtain ⟨h1, h⟩ := He.ba h
  obtain ⟨h2, h⟩ := He.ba h
  obtain ⟨h3, h4⟩ := He.ba h
  refine ⟨⟨h1, He.eqO_ok h2⟩, ?_, behind_ok h0, h4⟩
  split at h3
  · next id p D e =>
    obtain ⟨k1, k⟩ := He.ba h3
    obtain ⟨k2, k3⟩ := He.ba k
    (rw [e, of_decide_eq_true k1, of_decide_eq_true k2, of_decide_eq_true k3])
  · cases h3
def dCMeth (c : Str) (n : Nat) (g : FnD) (dd : List D) (fr : S → M (List D × S)) : S → M (D × S) := fun s => bd (fr s) fun p =>
  if (p.1 ++ dd).length + 1 = n then bdC (g (.cls c :: (p.1 ++ dd))) p.2 fun r => ok (r, p.2) else none
section
variable {X : Cx} {CX : CXT} {k n : Nat} {C p g : Addr} {fd : FuncData} {ps : List Str} {sp : Sp} {dvs : List V} {ds : List Value} {dd : List D} {E : L2.St → XK} {mc : Value} {m c x : Str} {p0 pos apos : Pos} {e o : Expr} {es : List Expr} {ta : TE} {t : TA} {cl : Cl} {wx : WX} {fr : S → M (List D × S)} {gf : FnD} {names : List Str}
end
end Dt
namespace Dt
open L2 PySem PySem.Spec PyProof.Rows
/-! ### cls(e, ..), cls a slot that holds a class -/
def dMakeV (i : Nat) (c : Str) (n : Nat) (g : D → List D → M (D × D)) (dd : List D) (fr : S → M (List D × S)) : S → M (D × S) := fun s => match s[i]? with
  | some (.val (.cls c')) => if c' = c then dMake c n g dd fr s else none
  | _ => none
section
variable {X : Cx} {CX : CXT} {k n : Nat} {f C : Addr} {fd : FuncData} {ps ks : List Str} {sp : Sp} {dvs : List V} {ds : List Value} {dd : List D} {E : L2.St → XK} {x c : Str} {p pos : Pos} {e : Expr} {es : List Expr} {kws : List Keyword} {t : TA} {cl : Cl} {wx : WX} {fr fk : S → M (List D × S)} {g : D → List D → M (D × D)} {names : List Str}
theorem pe_makeVG {i : Nat} (M : Mk X.K C f) (F : FnG X.prog X.w X.K X.mg X.base CX k f fd ps sp) (hgd : X.A.guards = some []) (hr : Room (k + 1) X.A) (hb : Binds X.K fd ps ds) (hd : Vals dvs ds) (hx : ∀ σ, PassesAt CX X σ (E σ))
    (ha : PA X (e :: es) t) (hN : X.N[i]? = some x) (hv : Vis X.env.scope x) (hdb : (x == ("__debug__" : Str)) = false) (hcd : (x == ("__classdict__" : Str)) = false) (he : starEach (e :: es) X.env = (false, eval e X.env) :: starEach es X.env := by rfl) (hpl : (backTo pos (starEach es X.env)).any (·.1) = false := by rfl) :
    PE X (.Call (.Name x p) (e :: es) [] pos) (fun σ H Q => σ[i]? = some (some (.ref C)) ∧ tMakeX C sp dvs E t σ H Q) := by
  constructor
  intro pins s σ H Q I h
  obtain ⟨hi, h⟩ := h
  refine wpAny_Call_Name_kw (thn ((pe_var (pos := p) hN hv hdb hcd).run pins s σ H (fun v H1 => v = .ref C ∧ H1 = H) I ⟨.ref C, hi, rfl, rfl⟩) ?_)
  rintro u s0 ⟨v, H0, I0, r0, rfl, rfl⟩
  obtain rfl : u = Value.ref C := r0
  refine PySem.W.callWith_K (h₀ := X.base) I0.ok.mod.kin M.kp (thn (ha.run pos pins s0 σ H0 _ I0 h) ?_) he hpl
  rintro us s1 ⟨vs, H1, I1, r, q⟩
  have hl : ∀ a : Addr, ((.ref a :: us) ++ ds).length = ps.length := fun a => by
    have h2 := q (s1.heap.objs.size + 1) s1.heap.objs.size (I1.hok.fresh (Nat.le_succ _)) (I1.hok.fresh (Nat.le_refl _)) (Nat.ne_of_lt (Nat.lt_succ_self _))
    have e1 := F.len _ _ _ _ h2
    have e2 := (r.append hd).length
    rw [List.length_cons] at e1
    rw [List.cons_append, List.length_cons]
    omega
  exact ⟨I1.kIn, run_makeG (us2 := us ++ ds) (vs2 := vs ++ dvs) M F hgd hr (hx σ) I1 (fun s2 a kin => hb s2 (.ref a :: us) kin (hl a)) (r.append hd) q⟩
theorem f_makeV (i : Nat) (kc : ClsD X.K cl c C names) (M : Mk X.K C f) (F : FnG X.prog X.w X.K X.mg X.base (L2.CX X.prog X.w) k f fd ps (spI X.K cl n g)) (hgd : X.A.guards = some []) (hr : Room (k + 1) X.A) (hb : Binds X.K fd ps ds) (hd : Vals dvs ds) (hdd : ∀ H : Hp, RpA X.K cl H dvs dd)
    (ha : PA X (e :: es) (TAof X.K cl wx fr)) (hN : X.N[i]? = some x := by rfl) (hv : Vis X.env.scope x := by first | exact Or.inl rfl | exact Or.inr (Or.inl rfl) | exact Or.inr (Or.inr rfl)) (hdb : (x == ("__debug__" : Str)) = false := by decide) (hcd : (x == ("__classdict__" : Str)) = false := by decide)
    (he : starEach (e :: es) X.env = (false, eval e X.env) :: starEach es X.env := by rfl) (hpl : (backTo pos (starEach es X.env)).any (·.1) = false := by rfl) (tk : Takes X wx := by first | assumption | exact takes_no) :
    PE X (.Call (.Name x p) (e :: es) [] pos) (TFof X.K cl wx (dMakeV i c n g dd fr)) := by
  refine iE (pe_makeVG (i := i) M F hgd hr hb hd (fun σ => passAt tk σ) ha hN hv hdb hcd he hpl) ?_
  rintro σ H Q ⟨w, L, sd, W, h⟩
  unfold dMakeV at h
  split at h
  · next c' e0 =>
    split at h
    · next ec =>
      subst ec
      obtain ⟨v, q1, q2⟩ := W.st.val i _ e0
      cases q2 with
      | cls k0 =>
        rw [kc.at_] at k0
        cases k0
        exact ⟨q1, make_readG kc hdd σ H Q ⟨w, L, sd, W, h⟩⟩
    · exact h.elim
  · exact h.elim
/-! ### C(k = e, ..), the keywords in the parameters' order -/
theorem f_makeK {gV : List V → List V → List V} (kc : ClsD X.K cl c C names) (M : Mk X.K C f) (F : FnG X.prog X.w X.K X.mg X.base (L2.CX X.prog X.w) k f fd ps (spI X.K cl n g)) (hgd : X.A.guards = some []) (hr : Room (k + 1) X.A) (hm : X.mg x = some (.ref C)) (hb : KBn X.K fd ps 1 ks (fun as bs => as ++ bs) gV)
    (hkw : PK X kws (TAof X.K cl wx fk)) (hg : Gl X x := by rfl) (hall : (backToKw pos (keywordEach kws X.env)).all (·.1.isSome) = true := by rfl) (hks : (backToKw pos (keywordEach kws X.env)).filterMap (·.1) = ks := by rfl)
    (hdb : (x == ("__debug__" : Str)) = false := by decide) (hpl : ((backTo pos (starEach [] X.env)).any (·.1) || (backToKw pos (keywordEach kws X.env)).any (·.1.isNone)) = false := by rfl) (hlen : ks.length + 1 = ps.length := by rfl) (tk : Takes X wx := by first | assumption | exact takes_no) :
    PE X (.Call (.Name x p) [] kws pos) (TFof X.K cl wx (dMake c n g [] fk)) := by
  constructor
  intro pins s σ H Q I h
  have h2 := make_readG (dvs := []) kc (fun _ => .nil) σ H Q h
  refine wpAny_Call_Name_kw (ld_glob I hg hm (PySem.W.callWith_KW0 (h₀ := X.base) I.ok.mod.kin M.kp hall (thn (hkw.run pos pins s σ H _ I h2) ?_) hpl) hdb)
  rintro ws s2 ⟨zs, H2, I2, rz, q2⟩
  rw [hks]
  have e1 := F.len _ _ _ _ (q2 (s2.heap.objs.size + 1) s2.heap.objs.size (I2.hok.fresh (Nat.le_succ _)) (I2.hok.fresh (Nat.le_refl _)) (Nat.ne_of_lt (Nat.lt_succ_self _)))
  have e2 := rz.length
  rw [List.length_cons, List.length_append, List.length_nil] at e1
  refine ⟨I2.kIn, run_makeG (us := []) (kw := ks.zip ws) (us2 := ws) (vs2 := zs ++ []) M F hgd hr (passAt tk σ) I2 (fun s3 a kin => ?_) (by rw [List.append_nil]; exact rz) q2⟩
  exact hb.to s3 [.ref a] ws kin rfl (by omega)
end
end Dt
namespace Dt
open L2 PySem PySem.Spec PyProof.Rows
/-! ### xs.count(k), ints -/
def cntD : Op2 := fun d e => match d, e with
  | .lst xs, .int k => match ints? xs with
    | some ns => ok (.int (ns.count k : Nat))
    | none => none
  | _, _ => none
def dCnt (fa fb : S → M (D × S)) : S → M (D × S) := fun s => bd (fa s) fun p => match p.1 with
  | .lst xs => bd (fb p.2) fun q => bd (cntD (.lst xs) q.1) fun r => ok (r, q.2)
  | _ => none
section
variable {X : Cx} {cl : Cl} {wx : WX} {o e : Expr} {fa fb : S → M (D × S)} {apos cpos : Pos}
theorem d_count (ho : PE X o (TEof X.K cl wx fa)) (he : PE X e (TEof X.K cl wx fb)) (hbase : attributeBase o "count" X.env (eval o X.env) = eval o X.env := by rfl)
    (hfew : ((backTo cpos (starEach [e] X.env)).all (fun x => !x.1) && (backToKw cpos (keywordEach [] X.env)).all (fun x => x.1.isSome) && decide ([e].length + ([] : List Keyword).length + (if ([] : List Keyword).isEmpty then 0 else 1) < 30)) = true := by rfl)
    (hline : (apos.endLine == cpos.line) = true := by rfl) (hs : starEach [e] X.env = (false, eval e X.env) :: starEach [] X.env := by rfl) (hpl : (backTo cpos (starEach [] X.env)).any (·.1) = false := by rfl) :
    PE X (.Call (.Attribute o "count" apos) [e] [] cpos) (TEof X.K cl wx (dCnt fa fb)) := by
  refine iE (pe_bm PySem.F.plainAttrs_list PySem.F.slot_list_count PySem.F.type_list_count mt_lcount ho (pa_cons he pa_nil hs) hbase hfew hline hs hpl) ?_
  rintro σ H Q ⟨w, L, sd, W, h⟩
  unfold dCnt at h
  refine ⟨w, L, sd, W, PostE.bd botE h fun x s1 h v H1 st1 W1 rx => ?_⟩
  cases rx with
  | @lst ad xs ds sq rs =>
    refine ⟨.inl ⟨rfl, _, hide_le.seq sq⟩, w, L, s1, W1, PostE.bd botE h fun y s2 h u H2 st2 W2 ry => ?_⟩
    have h' := h.fin (st1.trans st2) W2
    cases y with
    | int k =>
      have h2 : Fin1 X.K cl (L ++ w.O0) H2 Q (match ints? ds with
        | some ns => ok (.int (ns.count k : Nat))
        | none => none) := h'
      clear h' h
      split at h2
      · next ns en =>
        have rl := (Rp.lst sq rs).mono (st2.sn W2)
        cases ry
        rw [of_ints? en] at rl
        cases rl with
        | lst s3 r3 =>
          rw [r3.ints] at s3
          exact ⟨_, ns, k, rfl, rfl, hide_le.seq s3, h2.now (.int _)⟩
      · exact h2.elim
    | _ => exact h'.elim
  | _ => exact h.elim
end
/-! ### zip of two tuples -/
section
variable {X : Cx} {K : PySem.W.Frag} {cl : Cl} {wx : WX} {pos p : Pos} {e : Expr} {fr : S → M (List D × S)}
end
end Dt
namespace Dt
open L2 PySem PySem.Spec PyProof.Rows
/-! ### raise C(..) -/
def sRaise (c : Str) (n : Nat) (fa : S → M (List D × S)) : S → M Out := fun s => bd (fa s) fun p => if p.1.length = n then exc ⟨c, p.1⟩ p.2 else none
theorem look_app {α : Type} (l1 l2 : List (Str × α)) (f : Str) : (l1 ++ l2).lookup f = (l1.lookup f).or (l2.lookup f) := by
  induction l1 with
  | nil => simp
  | cons a l ih =>
    obtain ⟨k, v⟩ := a
    rw [List.cons_append, List.lookup_cons, List.lookup_cons, ih]
    split <;> simp
theorem look_zip_none {f : Str} : ∀ {names : List Str} {vs : List V}, f ∉ names → (names.zip vs).reverse.lookup f = none
  | [], _, _ => rfl
  | _ :: _, [], _ => rfl
  | n :: ns, v :: vs, h => by
    have h1 : (f == n) = false := beq_false_of_ne fun e => h (by rw [e]; exact List.mem_cons_self)
    rw [List.zip_cons_cons, List.reverse_cons, look_app, look_zip_none fun z => h (List.mem_cons_of_mem _ z), List.lookup_cons, h1]
    rfl
theorem zip_look : ∀ {names : List Str} {vs : List V} {i : Nat} {f : Str}, names.Nodup → vs.length = names.length → names[i]? = some f → (names.zip vs).reverse.lookup f = vs[i]?
  | [], _, _, _, _, _, e => by simp at e
  | _ :: _, [], _, _, _, l, _ => by simp at l
  | n :: ns, v :: vs, 0, f, nd, l, e => by
    (simp only [List.getElem?_cons_zero, Option.some.injEq] at e)
    subst e
    rw [List.zip_cons_cons, List.reverse_cons, look_app, look_zip_none (List.nodup_cons.mp nd).1, List.lookup_cons, beq_self_eq_true]
    rfl
  | n :: ns, v :: vs, i + 1, f, nd, l, e => by
    rw [List.getElem?_cons_succ] at e
    have ih := zip_look (List.nodup_cons.mp nd).2 (by simpa using l) e (vs := vs)
    have hi : i < vs.length := by
      have := (List.getElem?_eq_some_iff.mp e).1
      rw [List.length_cons, List.length_cons] at l
      omega
    rw [List.zip_cons_cons, List.reverse_cons, look_app, ih, List.getElem?_cons_succ, List.getElem?_eq_getElem hi]
    rfl
section
variable {X : Cx} {cl : Cl} {wx : WX} {c x : Str} {C fI : Addr} {k : Nat} {fd : FuncData} {ps names : List Str} {e : Expr} {es : List Expr} {fa : S → M (List D × S)} {p pos pos2 : Pos} {B newId initId : String} {bmB : List Value}
theorem s_raise (kc : cl c = some (C, names)) (nd : names.Nodup) (n0 : names ≠ []) (T : ExcG X.K C B newId initId bmB) (iC : PySem.W.findIn X.K (.ref C) "__init__" = some (some (.ref fI))) (tI : PySem.W.typeIn X.K (.ref fI) = some (.type "function"))
    (F1 : FnG X.prog X.w X.K X.mg X.base (L2.CX X.prog X.w) k fI fd ps (spEx C names)) (hgd : X.A.guards = some []) (hr : Room (k + 1) X.A) (hb : Binds X.K fd ps []) (hm : X.mg x = some (.ref C)) (ha : PA X (e :: es) (TAof X.K cl wx fa)) (hz : names.length ≤ 1000 := by decide)
    (hc : X.calm = true := by rfl) (hg : Gl X x := by rfl) (hdb : (x == ("__debug__" : Str)) = false := by decide) (he : starEach (e :: es) X.env = (false, eval e X.env) :: starEach es X.env := by rfl) (hpl : (backTo pos (starEach es X.env)).any (·.1) = false := by rfl)
    (tk : Takes X wx := by first | assumption | exact takes_no) : PS X (.Raise (some (.Call (.Name x p) (e :: es) [] pos)) none pos2) (TSof X.K cl wx [] (sRaise c names.length fa)) := by
  refine iS (ps_raise hc tk (pmk_exG T iC tI F1 hgd hr hb hm hz ha hg hdb he hpl)) ?_
  rintro E σ H ⟨w, L, sd, W, h⟩
  refine ⟨w, L, sd, W, PostA.bd botS h fun vs s1 h v H1 st1 W1 rv => ?_⟩
  dsimp only at h
  by_cases hl : vs.length = names.length
  · rw [if_pos hl] at h
    have hv : v.length = names.length := rv.len.trans hl
    refine ⟨hv, fun d nd' => ?_⟩
    have sm : Same H1 (upd H1 d (.xd (names.zip v).reverse)) := same_upd nd'
    have W2 := W1.ext sm
    refine h L σ _ _ _ W2 ⟨C, names, kc, rfl, hl.symm, .inr ⟨d, _, n0, rfl, hide_some.mpr ⟨W1.new_ne nd', upd_same⟩, fun i f y e1 e2 => ?_⟩⟩
    obtain ⟨u, q1, q2⟩ := rv.get i e2
    exact ⟨u, (zip_look nd hv e1).trans q1, q2.mono ((Step.of_same (w := w) (L := L) sm).sn W1)⟩
  · rw [if_neg hl] at h
    exact h.elim
end
end Dt
namespace Dt
open L2 PySem PySem.Spec PyProof.Rows
/-! ### what an except clause asks -/
def HT (X : Cx) (tt : Expr) (cls : Value) (b : Bool) : Prop := ∀ {pins : List (Addr × Obj)} {σ : L2.St} {H : Hp} {s : Shared} {a : Addr} {oe : Obj} {pn : List (Addr × Obj)} {Q : Bool → Shared → Prop} {E : Value → Shared → Prop}, Inv (X.suite a ((a, oe) :: pn)) pins σ H s → s.heap.get? a = some oe → oe.cls = cls →
  (∀ h', (∀ q o, s.heap.get? q = some o → h'.get? q = some o) → Q b { s with heap := h' }) →
  wpAny (model X.prog X.w) (X.A.mark (some (.ref a))) (eval tt X.env) (fun c s1 => wpAny (model X.prog X.w) (X.A.mark (some (.ref a))) (excMatches (.ref a) c) Q E s1) E s
section
variable {X : Cx} {x : Str} {c cls : Value} {np : Pos} {b : Bool}
theorem ht_load {pins : List (Addr × Obj)} {σ : L2.St} {H : Hp} {s : Shared} {a : Addr} {oe : Obj} {pn : List (Addr × Obj)} {Q : Value → Shared → Prop} {E : Value → Shared → Prop} (I : Inv (X.suite a ((a, oe) :: pn)) pins σ H s) (hc : Names X x c) (q : Q c s) :
    wpAny (model X.prog X.w) (X.A.mark (some (.ref a))) (eval (.Name x np) X.env) Q E s := by
  obtain ⟨hg, hd, e | ⟨e, hv, hn⟩⟩ := hc
  · exact ld_glob I hg e q hd
  · exact ld_blt I hg e hv q hn hd
theorem ht_ty {h : Heap} {a : Addr} {oe : Obj} (ha : h.get? a = some oe) (hcl : oe.cls = cls) : PySem.W.Looks (model X.prog X.w) h (typeOf (.ref a)) cls := fun A Q E s k q => wpAny_typeOf_ref (k _ _ ha) (by rw [hcl]; exact q)
theorem ht_name (hc : Names X x c) (he : PySem.W.exmOne X.K cls c = some b) : HT X (.Name x np) cls b := by
  intro pins σ H s a oe pn Q E I ha hcl q
  exact ht_load I hc ((PySem.W.exm_one (M := model X.prog X.w) I.kIn (ht_ty ha hcl) he).here (q s.heap fun _ _ z => z))
variable {x1 x2 x3 x4 : Str} {c1 c2 c3 c4 : Value} {p1 p2 p3 p4 tpos : Pos} {kk : Nat}
end
/-! ### a caught exception is taken up -/
theorem eobj_ok {P : Program} {w : World} {H : Hp} {h : Heap} {a C : Addr} {d : Option Addr} {oe : Obj} {vs : Array Value} (e : h.get? a = some oe) (h1 : oe.cls = .ref C) (h2 : oe.dict = d) (h3 : oe.data = .fields vs) : ObjOk P w H h a (eobj a C d) := by
  refine ⟨⟨oe, vs, e, h1, h2, h3⟩, ⟨oe, e⟩, ?_⟩
  rintro g1 g2 ⟨o, us, e1, q1, q2, q3⟩ k
  exact ⟨o, us, k _ e1, q1, q2, q3⟩
theorem adopt {X : Cx} {pins : List (Addr × Obj)} {σ : L2.St} {H : Hp} {s : Shared} {a C : Addr} {d : Option Addr} {oe : Obj} {vs : Array Value} (I : Inv X pins σ H s) (ha : s.heap.get? a = some oe) (h1 : oe.cls = .ref C) (h2 : oe.dict = d) (h3 : oe.data = .fields vs)
    (na : H a = none) (nL : a ≠ X.env.locals) (hpin : ∀ p ∈ X.pn ++ pins, p.1 ≠ a) (h0 : a ∉ X.ex → X.s_0.heap.get? a = none) : Inv X pins σ (upd H a (eobj a C d)) s := by
  have ne : ∀ {b : Addr} {o : HO}, H b = some o → b ≠ a := fun e z => by
    rw [z, na] at e
    cases e
  refine ⟨I.ok, I.os, I.bare, ⟨I.base.keep, I.base.slot, fun b o e n hb => ?_, I.base.there, fun b xs e => ?_, fun b o u e => ?_, fun b ps e => ?_⟩, I.loc, I.cell, ?_, fun x c e => ?_, fun p hp => ?_, fun b o e => ?_, I.len⟩
  · have := I.base.free b o e n hb
    rw [upd_ne fun z => ?_]
    · exact this
    · subst z
      rw [h0 hb] at e
      cases e
  · have z := I.base.tups b xs e
    rw [upd_ne (ne z)]
    exact z
  · have z := I.base.frzs b o u e
    rw [upd_ne (ne z)]
    exact z
  · obtain ⟨more, z⟩ := I.base.tbls b ps e
    exact ⟨more, by rw [upd_ne (ne z)]; exact z⟩
  · rw [upd_ne (Ne.symm nL)]
    exact I.free
  · rw [upd_ne fun z => ?_]
    · exact I.freeC x c e
    · (obtain ⟨v, o, ho, hd⟩ := I.cell x c e)
      rw [z, ha] at ho
      cases ho
      rw [h3] at hd
      cases hd
  · obtain ⟨q1, q2, q3, q4, q5⟩ := I.pin p hp
    exact ⟨q1, by rw [upd_ne (hpin p hp)]; exact q2, q3, q4, q5⟩
  · by_cases hb : b = a
    · subst hb
      rw [upd_same] at e
      cases e
      exact eobj_ok ha h1 h2 h3
    · rw [upd_ne hb] at e
      exact (I.hok b o e).stay (fun c v _ z => z) (fun c hc => by rw [upd_ne (ne hc)]; exact hc) fun c xs hc => by rw [upd_ne (ne hc)]; exact hc
/-! ### try: body, except tt as n: suite; the exception is tracked behind it -/
def wAsE (T : Value → Bool → Prop) (i : Nat) (ts : Addr → Value → Option Addr → TS) (Wout : WX) (D : Ends) : WX := fun cls d σ H =>
  ∃ b C, cls = .ref C ∧ T cls b ∧ (b = true → ∀ a, H a = none → ts a cls d { nx := fun σ' H' => H' a = none → D.nx (σ'.set i none) (upd H' a (eobj a C d)), rt := D.rt, bk := fun σ' H' => D.bk (σ'.set i none) H', ct := fun σ' H' => D.ct (σ'.set i none) H' } (σ.set i (some (.ref a))) H) ∧
    (b = false → Wout cls d σ H)
section
variable {X : Cx} {n : Str} {i : Nat} {tt : Expr} {body suite : List Stmt} {b₀ : Stmt} {pos pos' : Pos} {tb : WX → TS} {ts : Addr → Value → Option Addr → TS} {Wout : WX} {T : Value → Bool → Prop}
theorem ps_tryE (hs : X.stack = X.env :: X.outer) (hf : X.env.frame = some X.env.locals) (hN : X.N.Nodup) (hi : X.N[i]? = some n) (hln : X.env.kindOf n = some .local) (hT : ∀ cls b, T cls b → HT X tt cls b) (tk : Takes X Wout)
    (hb : ∀ (W : WX) (pn : List (Addr × Obj)) (xe : Value
          → Shared → Prop), Takes (X.tr pn xe) W → PassesOwn (model X.prog X.w) X.A X.env xe → PSs (X.tr pn xe) body (tb W))
    (hsu : ∀ (a : Addr) (oe : Obj) (cls : Value) (d : Option Addr) (pn : List (Addr × Obj)), Zc cls d oe
          → (∃ vs, oe.data = .fields vs) → PSs (X.suite a ((a, oe) :: pn)) (b₀ :: suite) (ts a cls d)) :
    PS X (.Try body [.ExceptHandler (some tt) (some n) (b₀ :: suite) pos'] [] [] pos) (fun D σ H => tb (wAsE T i ts Wout D) D σ H) := by
  refine ⟨fun pins s σ H D I h => wpAny_Try_except (wpAny_mono ((hb _ (X.pn ++ pins) (fun e s₁ => wpAny (model X.prog X.w) X.A (noteFrame e X.env) (fun _ s₂ => wpAny (model X.prog X.w) X.A (setFlight e none) (fun _ s₃ =>
    wpAny (model X.prog X.w) X.A (handleBy e X.env [.ExceptHandler (some tt) (some n) (b₀ :: suite) pos']) (SP X pins D) X.xe s₃) X.xe s₂) X.xe s₁) (fun u s' xx => ?_) PassesOwn.looking).run [] s σ H D (I.toTry _) h) (fun f s1 hsp => ?_) fun e s1 he => he)⟩
  · -- caught
    have hok := I.ok
    have hfr : X.A.frames = some (X.env :: X.outer) := by rw [hok.frames, hs]
    obtain ⟨a, B, sI, qs, σ', H', cls, d, rfl, J', nb, up, sky, na, os, ag, b, C, hC, hb1, hyes, hno⟩ := xx
    have J : Inv X pins σ' H' sI := J'.ofTry hok
    rw [show (X.tr (X.pn ++ pins) _).stack = X.env :: X.outer from hs] at sky
    refine Sky.land Zc.steady hfr hf sky fun h3 fl3 up3 => ?_
    (have J3 : Inv X pins σ' H' { s' with heap := h3 } := J.landed nb fl3.1 (up.trans up3) os ag)
    (obtain ⟨oe3, vs3, he3, hz3, hd3⟩ := fl3.there)
    have nfr : a ∉ frs (X.env :: X.outer) := fun hm => by
      obtain ⟨_, o', e', hnf⟩ := fl3.2.2.1.mem hm
      rw [he3] at e'
      cases e'
      exact hnf _ hd3
    (have nL : a ≠ X.env.locals := fun z => nfr (List.mem_filterMap.mpr ⟨X.env, List.mem_cons_self, by rw [hf, z]⟩))
    have nF
          : a ∉ X.fs := fun hm => by
      (obtain ⟨e, he, q⟩ := List.mem_filterMap.mp hm)
      (exact nfr (List.mem_filterMap.mpr ⟨e, List.mem_cons_of_mem _ he, q⟩))
    have nI : ∀ b, b = a → sI.heap.get? b = none := fun b hb => by
      subst hb
      cases q : sI.heap.get? b with
      | none => rfl
      | some o =>
        have := nb b o q (by rw [hs]; exact nfr)
        rw [fl3.2.1] at this
        cases this
    have h0 : a ∉ X.ex → X.s_0.heap.get? a = none := fun hx => by
      cases q : X.s_0.heap.get? a with
      | none => rfl
      | some o =>
        obtain ⟨o', e⟩ := J.base.there a o q hx
        rw [nI a rfl] at e
        cases e
    have hpin : ∀ p ∈ X.pn ++ pins, p.1 ≠ a := fun p hp z => by
      have := (J.pin p hp).1
      rw [nI _ z] at this
      cases this
    (have S3 := J3.suite he3 hd3 na nL nF)
    (refine wpAny_handleBy_cons (codeAny_handlers_test ?_) (by intro q; cases q))
    refine hT cls b hb1 S3 he3 hz3.1 fun h5 k5 => ?_
    have fl5 : HandSPX.FlyingZ B (X.env :: X.outer) a (Zc cls d) h5 := by
      obtain ⟨f1, f2, f3, oe, vs, T', oT, ts', g1, g2, g3, g4, g5, g6, g7, g8, g9⟩ := fl3
      exact ⟨fun b o q => k5 b o (f1 b o q), f2, f3.of_keeps fun b o q _ => ⟨o, k5 b o q, rfl⟩, oe, vs, T', oT, ts', k5 _ _ g1, g2, g3, g4, g5, g6, k5 _ _ g7, g8, g9⟩
    have up5 : sI.heap.UpToSlots h5 := (up.trans up3).trans (Heap.UpToSlots.of_keeps k5)
    cases b with
    | true =>
      refine codeAny_handlers_suite_as (HandSPX.lands_againZ fl5 fun h4 fl4 up4 => ?_)
      have J4 : Inv X pins σ' H' { s' with heap := h4 } := J.landed nb fl4.1 (up5.trans up4) os ag
      (obtain ⟨oe4, vs4, he4, hz4, hd4⟩ := fl4.there)
      (have S4 := J4.suite he4 hd4 na nL nF)
      refine store_ok (X := X.suite a ((a, oe4) :: (X.pn ++ pins))) (v := .ref a) S4 hN hi (.inl hln) rfl (fun s5 S5 => ?_) (.inr hln)
      refine wpAny_mono ((hsu a oe4 cls d (X.pn ++ pins) hz4 ⟨_, hd4⟩).run [] s5 _ H' _ S5 (hyes rfl a na)) (fun f s6 hsp => ?_) fun _ _ z => False.elim z
      cases f with
      | next =>
        (obtain ⟨σ6, H6, S6, q6⟩ := hsp)
        have ps := S6.pin (a, oe4) (List.mem_append_left _ List.mem_cons_self)
        have A6 := adopt (C := C) (d := d) (S6.unsuite hok) ps.1 (hz4.1.trans hC) hz4.2 hd4 ps.2.1 nL hpin h0
        exact gone_ok A6 hN hi hln fun s7 J7 => ⟨_, _, J7, q6 ps.2.1⟩
      | brk =>
        (obtain ⟨σ6, H6, S6, q6⟩ := hsp)
        exact gone_ok (S6.unsuite hok) hN hi hln fun s7 J7 => ⟨_, _, J7, q6⟩
      | cont =>
        (obtain ⟨σ6, H6, S6, q6⟩ := hsp)
        exact gone_ok (S6.unsuite hok) hN hi hln fun s7 J7 => ⟨_, _, J7, q6⟩
      | ret u =>
        (obtain ⟨v6, σ6, H6, S6, r6, q6⟩ := hsp)
        exact gone_ok (S6.unsuite hok) hN hi hln fun s7 J7 => ⟨_, _, _, J7, r6, q6⟩
    | false =>
      refine wpAny_handleBy_nil ?_
      obtain ⟨k1, k2, k3, oe, vs, T', oT, ts', he, hz, hd, h1, hr⟩ := id fl5
      unfold PySem.passOn
      (refine wpAny_bind (wpAny_field he hd h1 ?_))
      (rw [if_neg (show ¬ ((Value.ref T' == Value.none) = true) from by simp)])
      have fin : wpAny (model X.prog X.w) X.A (setFlight (.ref a) X.env.frame) (fun _ s4 => wpAny (model X.prog X.w) X.A (throw (.ref a) : Sem Flow) (SP X pins D) X.xe s4) X.xe { s' with heap := h5 } := by
        rw [hf]
        refine HandSPX.setFlight_upZ fl5 fun h4 hh4 up4 => wpAny_throw (tk _ _ ?_)
        exact ⟨a, B, sI, pins, σ', H', cls, d, rfl, J, nb, up5.trans up4, .inr (.inr (by rw [hs]; exact hh4)), na, os, ag, hno rfl⟩
      first
        | exact wpAny_bind
              (wpAny_pure (wpAny_bind fin))
        | exact wpAny_bind fin
  · have hok := I.ok
    cases f with
    | next =>
      obtain ⟨σ', H', J', q⟩ := hsp
      exact wpAny_execs_nil ⟨σ', H', J'.ofTry hok, q⟩
    | brk =>
      obtain ⟨σ', H', J', q⟩ := hsp
      exact ⟨σ', H', J'.ofTry hok, q⟩
    | cont =>
      obtain ⟨σ', H', J', q⟩ := hsp
      exact ⟨σ', H', J'.ofTry hok, q⟩
    | ret u =>
      (obtain ⟨v, σ', H', J', r, q⟩ := hsp)
      exact ⟨v, σ', H', J'.ofTry hok, r, q⟩
end
end Dt
namespace Dt
open L2 PySem PySem.Spec PyProof.Rows
/-! ### what the head tells of exception classes -/
def excgB (K : PySem.W.Frag) (C : Addr) (bmB : List Value) (newId : String) : Bool := PySem.W.excInitIn K C bmB newId && (PySem.W.excOver K C bmB && (PySem.W.hasDictIn K C && (He.eqO (PySem.W.findIn K (.ref C) "__setattr__") (some (some (.builtin "object.__setattr__"))) &&
  (decide (PySem.W.subIn K (.ref C) (.type "BaseException") = some true) && (decide (PySem.W.typeIn K (.ref C) = some (.type "type")) && PySem.W.keepIn K (.ref C))))))
theorem excg_of {K : PySem.W.Frag} {C : Addr} {bmB : List Value} {B newId initId : String} (FB : ExcBaseFacts B newId initId bmB) (SF : StoreFacts B bmB "object.__setattr__" "object") (h : excgB K C bmB newId = true) : ExcG K C B newId initId bmB := by
  obtain ⟨h1, h⟩ := He.ba h
  obtain ⟨h2, h⟩ := He.ba h
  obtain ⟨h3, h⟩ := He.ba h
  obtain ⟨h4, h⟩ := He.ba h
  obtain ⟨h5, h⟩ := He.ba h
  obtain ⟨h6, h7⟩ := He.ba h
  exact ⟨FB, SF, h1, h2, h3, He.eqO_ok h4, of_decide_eq_true h5, of_decide_eq_true h6, h7⟩
def sinitB (K : PySem.W.Frag) (S : Addr) (initId : String) : Bool := He.eqO (PySem.W.specialIn K (.ref S) "__getattribute__") (some (some (.builtin "type.__getattribute__"))) && (PySem.W.readsIn K S (.type "type") &&
  ((match PySem.W.findCls K (.ref S) (.type "type") "__init__" with
    | some (.val (.builtin i)) => decide (i = initId)
    | _ => false) && PySem.W.handedIn (.builtin initId)))
theorem sinit_of {K : PySem.W.Frag} {S : Addr} {initId : String} (h : sinitB K S initId = true) : SInit K S initId := by
  obtain ⟨h1, h⟩ := He.ba h
  obtain ⟨h2, h⟩ := He.ba h
  obtain ⟨h3, h4⟩ := He.ba h
  refine ⟨He.eqO_ok h1, h2, ?_, h4⟩
  split at h3
  · next i e =>
    have := of_decide_eq_true h3
    subst this
    exact e
  · cases h3
/-- an own exception class, its instances read and asked -/
structure ErrC (K : PySem.W.Frag) (C : Addr) (names : List Str) : Prop where
  xf : XfC K C
  no : ∀ f ∈ names, PySem.W.findIn K (.ref C) f = some none
  cl : (PySem.W.clsIn K C).isSome = true
  ha : PySem.W.findIn K
        (.ref C) "__class__" = some (some (.builtin "object.__class__"))
  hn : PySem.W.specialIn K
        (.builtin "object.__class__") "__get__" = some (some (.builtin "getset_descriptor.__get__"))
  ht : PySem.W.takesIn K
        (.builtin "object.__class__") = some true
  hm : PySem.W.mroIn K C
        (.type "object") = some true
def errB (K : PySem.W.Frag) (C : Addr) (names : List Str) : Bool := xfB K C && ((names.all fun f => He.eqO (PySem.W.findIn K (.ref C) f) (some none)) && ((PySem.W.clsIn K C).isSome && (He.eqO (PySem.W.findIn K (.ref C) "__class__") (some (some (.builtin "object.__class__"))) &&
  (He.eqO (PySem.W.specialIn K (.builtin "object.__class__") "__get__") (some (some (.builtin "getset_descriptor.__get__"))) && (decide (PySem.W.takesIn K (.builtin "object.__class__") = some true) && decide (PySem.W.mroIn K C (.type "object") = some true))))))
theorem err_of {K : PySem.W.Frag} {C : Addr} {names : List Str} (h : errB K C names = true) : ErrC K C names := by
  obtain ⟨h1, h⟩ := He.ba h
  obtain ⟨h2, h⟩ := He.ba h
  obtain ⟨h3, h⟩ := He.ba h
  obtain ⟨h4, h⟩ := He.ba h
  obtain ⟨h5, h⟩ := He.ba h
  obtain ⟨h6, h7⟩ := He.ba h
  exact ⟨xfB_ok h1, fun f hf => He.eqO_ok (List.all_eq_true.mp h2 f hf), h3, He.eqO_ok h4, He.eqO_ok h5, of_decide_eq_true h6, of_decide_eq_true h7⟩
/-! ### e.f, e a caught exception -/
def errF (tb : List (Str × Nat)) : D → M D := fun d => match d with
  | .err c fs => match tb.lookup c with
    | some j => match fs[j]? with
      | some d => ok d
      | none => none
    | none => none
  | _ => none
def dErrF (tb : List (Str × Nat)) (f : S → M (D × S)) : S → M (D × S) := fun s => bd (f s) fun p => bd (errF tb p.1) fun d => ok (d, p.2)
def tErrF (K : PySem.W.Frag) (f : Str) (te : TE) : TE := fun σ H Q => te σ H fun x H1 => ∃ (a C dd : Addr) (fs : List (Str × V)) (v : V) (names : List Str), x = .ref a ∧ H1 a = some (eobj a C (some dd)) ∧ ErrC K C names ∧ f ∈ names ∧ H1 dd = some (.xd fs) ∧ fs.lookup f = some v ∧ Q v H1
section
variable {X : Cx} {cl : Cl} {wx : WX} {pos p0 p2 : Pos} {e : Expr} {te : TE} {fe : S → M (D × S)} {f x : Str}
theorem pe_errF (he : PE X e te) (hb : attributeBase e f X.env (eval e X.env) = eval e X.env) : PE X (.Attribute e f pos) (tErrF X.K f te) := by
  (refine ⟨fun pins s σ H Q I h => ?_⟩)
  (refine attr_of hb (thn (he.run pins s σ H _ I h) fun u s1 hh => ?_))
  obtain ⟨x, H1, I1, rx, a, C, dd, fs, v, names, ex, ea, ec, hf, ed, l, q⟩ := hh
  subst ex
  (obtain rfl : u = Value.ref a := rx)
  obtain ⟨⟨oe, vs, q1, q2, q3, q4⟩, _⟩ := I1.hok a _ ea
  obtain ⟨mA, hns, hr⟩ := (show ObjOk X.prog X.w H1 s1.heap dd (.xd fs) from I1.hok dd _ ed)
  (obtain ⟨od, ho, hl⟩ := lookIn_ns hns)
  obtain ⟨u, hu, ru⟩ := RelO.some_of (v := v) (o := mA f) (by rw [← l]; exact hr f)
  have J : PySem.W.InstAt s1.heap a oe C (some od) := ⟨q1, q2, by unfold PySem.W.notCls; rw [q4] <;> rfl, by rw [q3]; exact ho⟩
  exact HandSPX.exc_get I1.kIn J ec.xf.ga ec.xf.gg ec.xf.exC (PySem.W.findObj_own ec.xf.hdC (ec.no f hf) rfl (by rw [hl, hu])) (handed_of ru) ⟨v, H1, I1.tok _, ru, q⟩
theorem d_errF (tb : List (Str × Nat)) (kt : ∀ c j, tb.lookup c = some j → ∃ C names, cl c = some (C, names) ∧ ErrC X.K C names ∧ names[j]? = some f) (he : PE X e (TEof X.K cl wx fe)) (hab : attributeBase e f X.env (eval e X.env) = eval e X.env := by rfl) :
    PE X (.Attribute e f pos) (TEof X.K cl wx (dErrF tb fe)) := by
  refine iE (pe_errF he hab) ?_
  rintro σ H Q ⟨w, L, sd, W, h0⟩
  refine ⟨w, L, sd, W, PostE.bd botE h0 fun r s1 h v H1 st1 W1 rr => ?_⟩
  cases r with
  | err c ds =>
    dsimp only [errF] at h
    split at h
    · next j ej =>
      split at h
      · next d hd =>
        obtain ⟨C, names, k1, k2, k3⟩ := kt c j ej
        cases rr with
        | err k0 e0 e1 l0 n0 r0 =>
          rw [k1] at k0
          cases k0
          obtain ⟨u, g1, g2⟩ := r0.get j hd
          exact ⟨_, _, _, _, u, names, rfl, (hide_some.mp e0).2, k2, List.mem_of_getElem? k3, (hide_some.mp e1).2, (n0 j f k3).trans g1, h u H1 st1 W1 g2⟩
      · exact h.elim
    · exact h.elim
  | _ => exact h.elim
/-! ### isinstance(e, C), e None or a caught exception -/
def isE (tb : List (Str × Bool)) : D → M D := fun d => match d with
  | .non => ok (.bl false)
  | .err c _ => match tb.lookup c with
    | some b => ok (.bl b)
    | none => none
  | _ => none
def dIsE (tb : List (Str × Bool)) (f : S → M (D × S)) : S → M (D × S) := fun s => bd (f s) fun p => bd (isE tb p.1) fun r => ok (r, p.2)
def rIsErr (K : PySem.W.Frag) : List V → Hp → VK → Prop := fun xs H Q => ∃ (x c : V) (t u : Value) (b : Bool), xs = [x, c] ∧ ClsV c u ∧ ((x = .non ∧ t = .type "NoneType") ∨ ∃ (a C : Addr) (d : Addr) (fs : List (Str × V)) (names : List Str), x = .ref a ∧ H a = some (eobj a C (some d)) ∧ H d = some (.xd fs) ∧ t = .ref C ∧ ErrC K C names) ∧ PySem.W.kitOne K t u = some b ∧ Q (.bl b) H
theorem call_isErr : CallR X (.builtin "isinstance") (rIsErr X.K) := by
  (intro pins s σ H xs us Q I r h)
  (obtain ⟨x, c, t, u, b, rfl, k, ty, e, q⟩ := h)
  (obtain ⟨u1, u2, rfl, r1, r2⟩ := vals2 r)
  have e2 := k.eq r2
  subst e2
  rcases ty with ⟨rfl, rfl⟩ | ⟨a, C, d, fs, names, rfl, ha, hd, rfl, T⟩
  · cases (show u1 = Value.none from r1)
    exact PySem.W.kia_one PySem.W.kitx_none I.kIn True.intro e (fun z => nomatch z) fun tk => ⟨.bl b, H, I.tok tk, rfl, q⟩
  · obtain rfl : u1 = Value.ref a := r1
    obtain ⟨⟨oe, vs, q1, q2, q3, q4⟩, _⟩ := I.hok a _ ha
    obtain ⟨mA, hns, hr⟩ := (show ObjOk X.prog X.w H s.heap d (.xd fs) from I.hok d _ hd)
    (obtain ⟨od, ho, hl⟩ := lookIn_ns hns)
    have J : PySem.W.InstAt s.heap a oe C (some od) := ⟨q1, q2, by unfold PySem.W.notCls; rw [q4] <;> rfl, by rw [q3]; exact ho⟩
    exact PySem.W.kia_one (PySem.W.kitx_exc T.cl T.xf.ga T.xf.gg T.xf.exC T.ha T.hn T.ht T.hm) I.kIn J e (fun z => nomatch z) fun tk => ⟨.bl b, H, I.tok tk, rfl, q⟩
theorem isE_read {c : V} {u : Value} {tb : List (Str × Bool)} {w : Wf} {L : List Addr} {H H1 : Hp} {σ : L2.St} {s1 : S} {Q : VK} {r : D} {v : V} (k : ClsV c u) (kn : PySem.W.kitOne X.K (.type "NoneType") u = some false)
    (kt : ∀ c b, tb.lookup c = some b → ∃ C names, cl c = some (C, names) ∧ ErrC X.K C names ∧ PySem.W.kitOne X.K (.ref C) u = some b) (rr : Rp X.K cl (hide (L ++ w.O0) H1) v r) (h' : Fin1 X.K cl (L ++ w.O0) H1 Q (isE tb r)) : rIsErr X.K [v, c] H1 Q := by
  cases r with
  | non =>
    cases rr
    exact ⟨_, c, _, u, false, rfl, k, .inl ⟨rfl, rfl⟩, kn, h'.now (.bl _)⟩
  | err c' ds =>
    dsimp only [isE] at h'
    split at h'
    · next b eb =>
      obtain ⟨C, names, k1, k2, k3⟩ := kt c' b eb
      cases rr with
      | err k0 e0 e1 l0 n0 r0 =>
        rw [k1] at k0
        cases k0
        exact ⟨_, c, _, u, b, rfl, k, .inr ⟨_, _, _, _, names, rfl, (hide_some.mp e0).2, (hide_some.mp e1).2, rfl, k2⟩, k3, h'.now (.bl _)⟩
    · exact h'.elim
  | _ => exact h'.elim
theorem d_isE {C0 : Addr} (tb : List (Str × Bool)) (kn : PySem.W.kitOne X.K (.type "NoneType") (.ref C0) = some false) (kt : ∀ c b, tb.lookup c = some b → ∃ C names, cl c = some (C, names) ∧ ErrC X.K C names ∧ PySem.W.kitOne X.K (.ref C) (.ref C0) = some b) (he : PE X e (TEof X.K cl wx fe)) (hm : X.mg "isinstance" = none) (hx : X.mg x = some (.ref C0))
    (hb : bootBuiltins "isinstance" = some (.builtin "isinstance")) (hg : Gl X "isinstance" := by rfl) (hgx : Gl X x := by rfl)
    (hd : (x == ("__debug__" : Str)) = false := by decide) (h1 : starEach [e, .Name x p2] X.env = (false, eval e X.env) :: starEach [.Name x p2] X.env := by rfl) (h2 : starEach [.Name x p2] X.env = (false, eval (.Name x p2) X.env) :: starEach [] X.env := by rfl)
    (hpl : (backTo pos (starEach [.Name x p2] X.env)).any (·.1) = false := by rfl) : PE X (.Call (.Name "isinstance" p0) [e, .Name x p2] [] pos) (TEof X.K cl wx (dIsE tb fe)) := by
  refine iE (pe_callB call_isErr hg hm hb (pa_cons he (pa_cons (pe_glob hgx hx (v := .ref C0) rfl hd) pa_nil h2) h1) (by decide) (by decide) h1 hpl) ?_
  rintro σ H Q ⟨w, L, sd, W, h⟩
  exact ⟨w, L, sd, W, PostE.bd botE h fun r s1 h v H1 st1 W1 rr => isE_read (σ := σ) (H := H) (s1 := s1) (.own C0) kn kt rr (h.fin st1 W1)⟩
end
end Dt
namespace Dt
open L2 PySem PySem.Spec PyProof.Rows
/-! ### try: body, except tt as n: y = n -/
def maskSl : Sl → Sl
  | .un => .un
  | .val d => .val d
  | .own _ => .un
  | .io d => if d.isReg then .un else .io d
  | .tre b d => if Inp b then .tre b d else .un
def maskS (s : S) : S := s.map maskSl
def sTryE (n i j : Nat) (tb : List (Str × Bool)) (F : S → M Out) : S → M Out := fun s => if s.length = n then (match F (maskS s) with
  | some (.ex e s1) => match tb.lookup e.c with
    | some true => if e.fs ≠ [] ∧ s1.length = n then ok (.nx ((s1.set j (.val (.err e.c e.fs))).set i .un)) else none
    | some false => some (.ex e s1)
    | none => none
  | some (.ok o) => some (.ok o)
  | none => none) else none
section
variable {K : PySem.W.Frag} {cl : Cl} {w : Wf} {L L1 : List Addr} {sd s1 : S} {σ σ1 : L2.St} {H H1 : Hp}
def wfT (w : Wf) (H : Hp) : Wf := { w with H0 := H }
theorem maskS_at {s : S} {i : Nat} {x : Sl} (e : (maskS s)[i]? = some x) : ∃ y, s[i]? = some y ∧ x = maskSl y := by
  unfold maskS at e
  rw [List.getElem?_map] at e
  cases q : s[i]? with
  | none => (rw [q] at e; cases e)
  | some y => rw [q] at e; exact ⟨y, rfl, (Option.some.inj e).symm⟩
theorem mask_tre {s : S} {i b : Nat} {d : D} (e : (maskS s)[i]? = some (.tre b d)) : s[i]? = some (.tre b d) ∧ Inp b := by
  obtain ⟨y, q, z⟩ := maskS_at e
  cases y with
  | tre b' d' =>
    unfold maskSl at z
    dsimp only at z
    split at z
    · next h => cases z; exact ⟨q, h⟩
    · cases z
  | io d' =>
    unfold maskSl at z
    dsimp only at z
    split at z <;> cases z
  | _ => cases z
theorem mask_io {s : S} {i : Nat} {d : D} (e : (maskS s)[i]? = some (.io d)) : s[i]? = some (.io d) ∧ d.isReg = false := by
  obtain ⟨y, q, z⟩ := maskS_at e
  cases y with
  | tre b' d' =>
    unfold maskSl at z
    dsimp only at z
    split at z <;> cases z
  | io d' =>
    unfold maskSl at z
    dsimp only at z
    split at z
    · cases z
    · next hr => cases z; exact ⟨q, by simpa using hr⟩
  | _ => cases z
theorem mask_val {s : S} {i : Nat} {d : D} (e : (maskS s)[i]? = some (.val d)) : s[i]? = some (.val d) := by
  obtain ⟨y, q, z⟩ := maskS_at e
  cases y with
  | val d' => cases z; exact q
  | tre b' d' =>
    unfold maskSl at z
    dsimp only at z
    split at z <;> cases z
  | io d' =>
    unfold maskSl at z
    dsimp only at z
    split at z <;> cases z
  | _ => cases z
theorem mask_own {s : S} {i : Nat} {d : D} (e : (maskS s)[i]? = some (.own d)) : False := by
  obtain ⟨y, q, z⟩ := maskS_at e
  cases y with
  | tre b' d' =>
    unfold maskSl at z
    dsimp only at z
    split at z <;> cases z
  | io d' =>
    unfold maskSl at z
    dsimp only at z
    split at z <;> cases z
  | _ => cases z
theorem Wl.mask (W : Wl K cl w L sd σ H) : Wl K cl (wfT w H) [] (maskS sd) σ H := by
  have sm : Same (hide (L ++ w.O0) H) (hide (([] : List Addr) ++ w.O0) H) := hide_sub fun a h => List.mem_append_right _ h
  obtain ⟨F, t1, t2, t3, t4⟩ := W.st.tr.ex
  refine ⟨fun _ _ _ e => e, fun a h => by simp at h, fun a h => W.alive a (List.mem_append_right _ h), fun a h => by simp at h, W.sub, ⟨fun i d e => ?_, fun i d e => (mask_own e).elim, fun i d e => ?_, fun i j d d' a e => (mask_own e).elim, fun i j d d' e e' => W.st.ioj i j d d' (mask_io e).1 (mask_io e').1, by unfold maskS; rw [List.length_map]; exact W.st.len, ⟨F, fun i b d e => ?_, fun i j b c d e q q2 => t2 i j b c d e (mask_tre q).1 (mask_tre q2).1, fun i j b d e a q q2 => (mask_own q2).elim, fun i j b d e q q2 => t4 i j b d e (mask_tre q).1 (mask_io q2).1⟩⟩⟩
  · obtain ⟨v, h1, h2⟩ := W.st.val i d (mask_val e)
    exact ⟨v, h1, h2.mono sm⟩
  · obtain ⟨q, hr⟩ := mask_io e
    obtain ⟨h1, h2, h3⟩ := W.st.io i d q
    exact ⟨h1, h2, (h3.any (h1 := H) hr).move rfl sm⟩
  · obtain ⟨q, hb⟩ := mask_tre e
    obtain ⟨a, k1, k2, k3, k4, k5, k6, k7⟩ := t1 i b d q
    exact ⟨a, k1, k2, k3.map (fun _ _ r => r.mono sm) fun _ _ => rfl, k4, fun x hx => .inr (k6 hb x hx), k6, k7⟩
theorem Wl.unmask (W : Wl K cl w L sd σ H) (W1 : Wl K cl (wfT w H) L1 s1 σ1 H1) : Wl K cl w L1 s1 σ1 H1 ∧ Step w L H L1 H1 := by
  refine ⟨⟨fun b o n e => W1.keep b o n (W.keep b o n e), fun a h => W.old (W1.fresh a h), W1.alive, W1.disj, W1.sub, ⟨W1.st.val, fun i d e => ?_, fun i d e => ?_, W1.st.inj, W1.st.ioj, W1.st.len, W1.st.tr.same (fun _ _ e => e) rfl fun x hx _ _ => ⟨rfl, hx⟩⟩⟩, fun b o _ n e => W1.keep b o n e, fun b e => ?_, fun a h => .inr (W1.fresh a h)⟩
  · obtain ⟨a, h1, h2, h3⟩ := W1.st.own i d e
    exact ⟨a, h1, h2, h3.old fun b z => W.old z⟩
  · obtain ⟨h1, h2, h3⟩ := W1.st.io i d e
    exact ⟨h1, h2, h3.old fun b z => W.old z⟩
  · by_cases hI : b ∈ w.I
    · exact W1.alive b (List.mem_append_right _ (W.sub b hI))
    · cases q : H b with
      | none => exact absurd q e
      | some o => rw [W1.keep b o hI q]; simp
theorem step_unmask (W : Wl K cl w L sd σ H) (st : Step (wfT w H) [] H L1 H1) : Step w L H L1 H1 := by
  refine ⟨fun b o _ n e => st.keep b o (by simp) n e, st.alv, fun a h => .inr ?_⟩
  rcases st.new a h with z | z
  · simp at z
  · exact z
theorem RpA.of_at {K : PySem.W.Frag} {cl : Cl} {H : Hp} : ∀ {vs : List V} {ds : List D}, vs.length = ds.length → (∀ (i : Nat) (v : V) (d : D), vs[i]? = some v → ds[i]? = some d → Rp K cl H v d) → RpA K cl H vs ds
  | [], [], _, _ => .nil
  | [], _ :: _, h, _ => by (simp at h)
  | _ :: _, [], h, _ => by (simp at h)
  | v :: vs, d :: ds, h, r => .cons (r 0 v d rfl rfl) (RpA.of_at (by simpa using h) fun i v d h1 h2 => r (i + 1) v d (by rw [List.getElem?_cons_succ]; exact h1) (by rw [List.getElem?_cons_succ]; exact h2))
theorem agree_all {n : Nat} (h : σ.length = n) (h1 : σ1.length = n) : Agree (List.range n) σ σ1 := ⟨h1.trans h.symm, fun i hi => by
  have : ¬ i < n := fun z => hi (List.mem_range.mpr z)
  rw [List.getElem?_eq_none (by omega), List.getElem?_eq_none (by omega)]⟩
/-- a slot is let go -/
theorem Wl.gone (W : Wl K cl w L sd σ H) (i : Nat) : Wl K cl w L (sd.set i .un) (σ.set i none) H := W.wiped [i]
end
section
variable {X : Cx} {cl : Cl} {wx : WX} {n y : Str} {i j m : Nat} {tt : Expr} {body : List Stmt} {pos pos' pos2 pn py : Pos} {F : S → M Out} {ts : List Nat}
theorem s_tryE (tb : List (Str × Bool)) (hT : ∀ c b, tb.lookup c = some b → ∃ C names, cl c = some (C, names) ∧ HT X tt (.ref C) b)
    (hs : X.stack = X.env :: X.outer) (hf : X.env.frame = some X.env.locals) (hN : X.N.Nodup)
    (hb : ∀ (W : WX) (pn : List (Addr × Obj)) (xe : Value → Shared → Prop), Takes (X.tr pn xe) W → PassesOwn (model X.prog X.w) X.A X.env xe → PSs (X.tr pn xe) body (TSof X.K cl W ts F)) (hi : X.N[i]? = some n := by rfl) (hln : X.env.kindOf n = some .local := by rfl)
    (hj : X.N[j]? = some y := by rfl) (hlx : Loc X.env.scope y := by first | exact Or.inl rfl | exact Or.inr rfl) (hfn : X.fn y = true ∨ X.env.scope.names.lookup y = some .local := by first | exact .inl rfl | exact .inr rfl) (hij : i ≠ j := by decide) (him : i < m := by decide)
    (hv : Vis X.env.scope n := by first | exact Or.inl rfl | exact Or.inr (Or.inl rfl) | exact Or.inr (Or.inr rfl)) (hd : (n == ("__debug__" : Str)) = false := by decide) (hcd : (n == ("__classdict__" : Str)) = false := by decide)
    (hsw : swapsWith (.Name n pn) (some (.Name y py)) pos2.line X.env = pure false := by rfl) (tk : Takes X wx := by first | assumption | exact takes_no) :
    PS X (.Try body [.ExceptHandler (some tt) (some n) [.Assign [.Name y py] (.Name n pn) pos2] pos'] [] [] pos) (TSof X.K cl wx (List.range m) (sTryE m i j tb F)) := by
  refine iS (ps_tryE (i := i) (T := fun cls b => ∃ c C names, cls = .ref C ∧ cl c = some (C, names) ∧ tb.lookup c = some b) (ts := fun _ _ _ => tAsg (tVar i) (gName j)) (tb := fun W => TSof X.K cl W ts F) hs hf hN hi hln ?_ tk hb fun a oe cls d pn _ _ => pss_one (ps_set hN hj hlx (pe_var hi hv hd hcd) hsw hfn)) ?_
  · rintro cls b ⟨c, C, names, rfl, kc, e⟩
    obtain ⟨C', names', k1, k2⟩ := hT c b e
    rw [kc] at k1
    cases k1
    exact k2
  · rintro E σ H ⟨w, L, sd, W, h⟩
    unfold sTryE at h
    by_cases hm : sd.length = m
    · rw [if_pos hm] at h
      have hσ : σ.length = m := W.st.len.trans hm
      refine ⟨wfT w H, [], maskS sd, W.mask, ?_⟩
      match q : F (maskS sd), h with
      | none, h => exact h.elim
      | some (.ok (.nx s1)), h => exact fun L' σ' H' st W1 ag => h L' σ' H' (step_unmask W st) (W.unmask W1).1 (agree_all hσ (ag.len.trans hσ))
      | some (.ok (.bk s1)), h => exact fun L' σ' H' st W1 ag => h L' σ' H' (step_unmask W st) (W.unmask W1).1 (agree_all hσ (ag.len.trans hσ))
      | some (.ok (.ct s1)), h => exact fun L' σ' H' st W1 ag => h L' σ' H' (step_unmask W st) (W.unmask W1).1 (agree_all hσ (ag.len.trans hσ))
      | some (.ok (.rt d s1)), h => exact fun L' σ' H' v st W1 r => h L' σ' H' v (step_unmask W st) (W.unmask W1).1 r
      | some (.ok (.rf d s1)), h => exact fun L' σ' H' p st W1 n0 np r => h L' σ' H' p (step_unmask W st) (W.unmask W1).1 (W.old n0) np (r.old fun b z => W.old z)
      | some (.ex e s1), h =>
        intro L1 σ1 H1 cls d W1 X1
        obtain ⟨C, names, k1, rfl, k2, k3⟩ := X1
        dsimp only at h
        split at h
        · next et =>
          split at h
          · next hc =>
            obtain ⟨hf, hl⟩ := hc
            refine ⟨true, C, rfl, ⟨e.c, C, names, rfl, k1, et⟩, fun _ a na => ?_, (fun z => by cases z)⟩
            have hil : i < σ1.length := by
              rw [W1.st.len, hl]
              exact him
            have e1 : (σ1.set i (some (V.ref a)))[i]? = some (some (V.ref a)) := List.getElem?_set_self hil
            refine ⟨_, e1, fun na' => ?_⟩
            rcases k3 with ⟨k3, _⟩ | ⟨dd, fvs, _, rfl, g1, g2⟩
            · rw [k3] at k2
              exact absurd (List.length_eq_zero_iff.mp k2.symm) hf
            · obtain ⟨W2, st2⟩ := W.unmask W1
              have sm := same_upd (o := eobj a C (some dd)) na
              have W3 := W2.ext sm
              have rp : Rp X.K cl (hide (L1 ++ w.O0) (upd H1 a (eobj a C (some dd)))) (.ref a) (.err e.c e.fs) := by
                have nn := W2.new_ne na
                obtain ⟨g3, g4⟩ := hide_some.mp g1
                have ge : upd H1 a (eobj a C (some dd)) dd = some (.xd fvs) := by
                  rw [upd_ne fun z => ?_]
                  · exact g4
                  · rw [z, na] at g4
                    cases g4
                refine .err (vs := names.map fun f => (fvs.lookup f).getD .non) k1 (hide_some.mpr ⟨nn, upd_same⟩) (hide_some.mpr ⟨g3, ge⟩) (by rw [List.length_map]) (fun k f ek => ?_) (RpA.of_at (by rw [List.length_map]; exact k2) fun k v x ev ex => ?_)
                · have hk : k < e.fs.length := by
                    rw [← k2]
                    exact (List.getElem?_eq_some_iff.mp ek).1
                  obtain ⟨v, r1, r2⟩ := g2 k f _ ek (List.getElem?_eq_getElem hk)
                  rw [List.getElem?_map, ek, Option.map_some, r1]
                  rfl
                · rw [List.getElem?_map] at ev
                  cases ek : names[k]? with
                  | none => rw [ek] at ev; cases ev
                  | some f =>
                    obtain ⟨u, r1, r2⟩ := g2 k f x ek ex
                    rw [ek, Option.map_some, r1] at ev
                    cases ev
                    exact r2.mono fun b o z => by
                      obtain ⟨z1, z2⟩ := hide_some.mp z
                      exact hide_some.mpr ⟨z1, sm b o z2⟩
              have es : (((σ1.set i (some (V.ref a))).set j (some (V.ref a))).set i none) = (σ1.set j (some (V.ref a))).set i none := by
                rw [List.set_comm _ _ hij, List.set_set]
              show E.nx ((((σ1.set i (some (V.ref a))).set j (some (V.ref a))).set i none)) _
              rw [es]
              exact h L1 _ _ (st2.trans (.of_same sm)) ((W3.set rp).gone i) (agree_all hσ (by rw [List.length_set, List.length_set, W1.st.len, hl]))
          · exact h.elim
        · next ef => exact ⟨false, C, rfl, ⟨e.c, C, names, rfl, k1, ef⟩, (fun z => by cases z), fun _ => h L1 σ1 H1 _ d (W.unmask W1).1 ⟨C, names, k1, rfl, k2, k3⟩⟩
        · exact h.elim
    · rw [if_neg hm] at h
      exact h.elim
end
end Dt
namespace Dt
open L2 PySem PySem.Spec PyProof.Rows
/-! ### b is c, two bools -/
theorem op_isB {X : Cx} : OpR X (compareOp .Is) (fun x y H Q => ∃ a b, x = .bl a ∧ y = .bl b ∧ Q (.bl (decide (a = b))) H) := by
  (intro pins s σ H x y v u Q I rx ry h)
  (obtain ⟨a, b, rfl, rfl, q⟩ := h)
  (cases (show v = Value.bool a from rx))
  (cases (show u = Value.bool b from ry))
  by_cases e : a = b
  · subst e
    (exact wpAny_is_self rfl ⟨.bl true, H, I, rfl, by simpa using q⟩)
  · (exact wpAny_is_other rfl (fun z => e (Value.bool.inj z)) ⟨.bl false, H, I, rfl, by simpa [e] using q⟩)
def isBl : Op2 := fun d e => match d, e with
  | .bl a, .bl b => ok (.bl (decide (a = b)))
  | _, _ => none
section
variable {X : Cx} {cl : Cl} {K : PySem.W.Frag}
theorem k_isB : OpK X K cl (compareOp .Is) isBl := by
  refine ⟨_, op_isB, fun O H x y d e Q _ rx ry h => ?_⟩
  unfold isBl at h
  split at h
  · cases rx
    cases ry
    exact ⟨_, _, rfl, rfl, h.now (.bl _)⟩
  · exact h.elim
/-! ### all, any of a list of bools -/
theorem RpA.bools {H : Hp} : ∀ {vs : List V} {bs : List Bool}, RpA K cl H vs (bs.map D.bl) → vs = bs.map V.bl
  | _, [], h => by cases h; rfl
  | _, b :: bs, h => by
    cases h with
    | cons a r =>
      cases a
      rw [r.bools]
      rfl
end
end Dt
namespace Dt
open L2 PySem PySem.Spec PyProof.Rows
/-! ### == and != of two instances of one class with its own __eq__ -/
theorem nq_bind (self : Value) : bindSpecial (.builtin "object.__ne__") self = pure (.builtin "object.__ne__", [self]) :=
  (Slot.of (T := "object") (name := "__ne__") (owner := "object") (n := "__ne__") (by rw [typeLookup_type, builtinLookup_eq_fast]; kernel_rfl) (by decide +kernel) (by decide +kernel) (by decide +kernel)
    (.inl (by decide +kernel))
          (by rw [isSubtype_type]; kernel_rfl)).bind self
theorem nq_plain : plainId "object.__ne__" = true := by decide +kernel
section
variable {prog : Program} {w : World} {A : Around} {E : Value → Shared → Prop} {s : Shared} {K : PySem.W.Frag} {x C f : Addr} {ox : Obj} {od : Option Obj} {b : Value}
theorem nq_check {M : Model} {rest : List Value} {Q : Unit → Shared → Prop} (X : K.In s.heap) (I : PySem.W.InstAt s.heap x ox C od) (hm : PySem.W.mroIn K C (.type "object") = some true) (ha : argsOk "object.__ne__" ⟨.ref x :: rest, []⟩) (hq : Q () s) :
    wpAny M A (checkBuiltinCall "object.__ne__" ⟨.ref x :: rest, []⟩) Q E s := by
  simp only [checkBuiltinCall, F.cmpKind_ne, F.cmpSplit_ne]
  unfold isInstance
  refine wpAny_bind (wpAny_bind (I.type.here ((PySem.W.looks_mroIn X hm).here ?_)))
  (simp only [Bool.not_true, Bool.false_eq_true, if_false])
  cases hsig : Manifest.signature? "object.__ne__" with
  | none => exact wpAny_pure hq
  | some sig =>
    (simp only [argsOk, hsig] at ha)
    have h2 : Bind.checkArgs "object.__ne__" sig ⟨.ref x :: rest, []⟩ = pure () := ha
    show wpAny M A (Bind.checkArgs "object.__ne__" sig ⟨.ref x :: rest, []⟩) Q E _
    rw [h2]; exact wpAny_pure hq
theorem nq_body {Q : Fin → Shared → Prop} (X : K.In s.heap) (I : PySem.W.InstAt s.heap x ox C od) (hu : A.units < cLine)
    (hs : PySem.W.findIn K (.ref C) "__eq__" = some (some (.ref f))) (hf : PySem.W.isFn K (.ref f) = true)
    (h : wpAny (model prog w) A (call (.ref f) [.ref x, b]) (fun v s' => ∃ r, v = .bool r ∧ Q (.done (.ret (.bool (!r)))) s') E s) :
    wpAny (model prog w) A (Builtin.«object.__ne__» ⟨[.ref x, b], []⟩) Q E s := by
  obtain ⟨hp, g, d, t, os⟩ := s
  (unfold Builtin.«object.__ne__»)
  repeat (first
    | (with_reducible refine wpAny_cRoomFor hu ?_)
    | (refine wpAny_bind (m := callSpecialIfBound? (.ref x) (Str.ofString "__eq__") [b])
        (PySem.W.ifBound_K X I hs hf (wpAny_mono h (fun r s' hr => by
          obtain ⟨b, rfl, hq⟩ := hr
          repeat (first | exact hq | exact wpAny_pure hq | exact wpAny_truthy_bool hq |
                (refine wpAny_bind (m := truthy (.bool _)) (wpAny_truthy_bool ?_)) | wp_step)) fun _ _ e => e)))
    | wp_step)
theorem ne_bound {M : Model} {args : List Value} {Q : Option Value → Shared → Prop} (X : K.In s.heap) (I : PySem.W.InstAt s.heap x ox C od) (hs : PySem.W.findIn K (.ref C) "__ne__" = some (some (.builtin "object.__ne__")))
    (h : wpAny M A (call (.builtin "object.__ne__") (.ref x :: args)) (fun v => Q (some v)) E s) : wpAny M A (callSpecialIfBound? (.ref x) "__ne__" args) Q E s := by
  (simp only [callSpecialIfBound?, bindSpecialIfBound?])
  (refine wpAny_holding (wpAny_bind (wpAny_bind (wpAny_bind (I.type.here ((PySem.W.looks_findIn X hs).here ?_))))))
  simp only [nq_bind]
  (refine wpAny_bind (wpAny_askSetting (wpAny_ite ?_)))
  have fin : wpAny M A (call (.builtin "object.__ne__") ([.ref x] ++ args) >>= fun v => pure (some v)) Q E s := wpAny_bind (wpAny_mono h (fun v s' h' => wpAny_pure h') fun _ _ h' => h')
  split
  · (exact wpAny_bind (wpAny_pure (wpAny_pure fin)))
  · (exact wpAny_tryCatch (wpAny_bind (wpAny_pure (wpAny_pure fin))))
theorem ne_K {y : Addr} {Q : Value → Shared → Prop} (hu : A.units + 1 < cLine) (X : K.In s.heap) (I : PySem.W.InstAt s.heap x ox C od) (hb : PySem.W.Looks (model prog w) s.heap (typeOf (.ref y)) (.ref C))
    (hne : PySem.W.findIn K (.ref C) "__ne__" = some (some (.builtin "object.__ne__"))) (hm : PySem.W.mroIn K C (.type "object") = some true)
    (hs : PySem.W.findIn K (.ref C) "__eq__" = some (some (.ref f))) (hf : PySem.W.isFn K (.ref f) = true)
    (h : wpAny (model prog w) A.in1 (call (.ref f) [.ref x, .ref y]) (fun v s' => ∃ r, v = .bool r ∧ Q (.bool (!r)) s') E s) : wpAny (model prog w) A (richCompare .NotEq (.ref x) (.ref y)) Q E s := by
  have one : wpAny (model prog w) A (tryCompare (.ref x) "__ne__" (.ref y)) (fun r s' => ∃ v, r = some v ∧ Q v s') E s := by
    unfold tryCompare
    refine wpAny_bind (ne_bound X I hne (wpAny_call (codeAny_call_builtin nq_plain F.cmpEntry_ne (nq_check X I hm (F.cmpArgs_ne _ _)
      (nq_body (A := A.in1) X I hu hs hf (wpAny_mono h (fun v s' hv => ?_) fun _ _ e => e))))))
    obtain ⟨r, rfl, hq⟩ := hv
    exact ⟨r, rfl, wpAny_pure ⟨_, rfl, hq⟩⟩
  unfold richCompare
  simp only [oneThing_ref]
  refine wpAny_holding (wpAny_bind (wpAny_cRoomFor (Nat.lt_of_succ_lt hu) ?_))
  rw [cmpInfo_NotEq]
  dsimp only
  (refine wpAny_bind (I.type.here (wpAny_bind (hb.here ?_))))
  (rw [show (Value.ref C != Value.ref C) = false from by simp])
  (simp only [Bool.false_eq_true, if_false])
  (refine wpAny_bind (wpAny_pure ?_))
  (simp only [Bool.false_eq_true, if_false])
  (refine wpAny_bind (wpAny_mono one (fun r s' z => ?_) fun _ _ e => e))
  obtain ⟨v, rfl, hq⟩ := z
  exact wpAny_pure hq
end
section
variable {X : Cx} {CX : CXT} {k : Nat} {C f : Addr} {fd : FuncData} {ps names : List Str} {sp : Sp} {E : XK} {cl : Cl} {c : Str} {g : FnD}
/-- what the own __eq__ answers, or its contrary -/
def rOwn (C : Addr) (sp : Sp) (E : XK) (neg : Bool → Bool) : R2 := fun x y H Q => ∃ a b dx dy fs gs, x = .ref a ∧ y = .ref b ∧ H a = some (.ins C dx fs) ∧ H b = some (.ins C dy gs) ∧ sp [.ref a, .ref b] H (fun v H' => ∃ t, v = .bl t ∧ Q (.bl (neg t)) H') E
theorem own_run {neg : Bool → Bool} {pins : List (Addr × Obj)} {σ : L2.St} {H : Hp} {s : Shared} {Q : VK} {a b : Addr} {A : Around} (F : FnG X.prog X.w X.K X.mg X.base CX k f fd ps sp) (hgd : A.guards = some []) (hr : Room k A) (hb : Binds X.K fd ps []) (hx : Passes CX X.nox E) (I : Inv X pins σ H s)
    (e0 : Env0 X.prog X.w X.K X.mg X.base A X.stack s H) (q : sp [.ref a, .ref b] H (fun v H' => ∃ t, v = .bl t ∧ Q (.bl (neg t)) H') E) :
    wpAny (model X.prog X.w) A (call (.ref f) [.ref a, .ref b]) (fun v s' => ∃ r, v = .bool r ∧ EP X pins σ Q (.bool (neg r)) s') X.xe s := by
  have hl : ([Value.ref a, .ref b] ++ []).length = ps.length := F.len _ _ _ _ q
  refine wpAny_call (codeAny_mono (F.go A X.stack s H ⟨[.ref a, .ref b], []⟩ [.ref a, .ref b] [.ref a, .ref b] _ E hgd hr e0 (hb s [.ref a, .ref b] I.kIn hl) (.cons rfl (.cons rfl .nil)) q) fun r s' hq => ?_)
  match r, hq with
  | .error er, hq => exact False.elim (hx pins σ H s er s' (I.wish _) hq)
  | .ok (.ret u), hq =>
    obtain ⟨v, H', I3, rv, t, ev, q3⟩ := I.after hq
    subst ev
    cases rv
    exact ⟨t, rfl, .bl (neg t), H', I3, rfl, q3⟩
  | .ok .next, hq => exact hq.elim
  | .ok .brk, hq => exact hq.elim
  | .ok .cont, hq => exact hq.elim
theorem op_eqO (F : FnG X.prog X.w X.K X.mg X.base CX k f fd ps sp) (hgd : X.A.guards = some []) (hr : Room k X.A) (hb : Binds X.K fd ps []) (hx : Passes CX X.nox E)
    (hs : PySem.W.findIn X.K (.ref C) "__eq__" = some (some (.ref f))) (hf : PySem.W.isFn X.K (.ref f) = true) : OpR X (compareOp .Eq) (rOwn C sp E id) := by
  (intro pins s σ H x y v u Q I rx ry h)
  obtain ⟨a, b, dx, dy, fs, gs, rfl, rfl, ha, hb', q⟩ := h
  cases rx
  cases ry
  (obtain ⟨mA, J, _⟩ := ins_get I.hok ha)
  (obtain ⟨mB, J', _⟩ := ins_get I.hok hb')
  obtain ⟨od, J, _⟩ := J.look
  (obtain ⟨od', J', _⟩ := J'.look)
  obtain ⟨m, hF⟩ := I.fr
  show wpAny (model X.prog X.w) X.A (richCompare .Eq (.ref a) (.ref b)) (EP X pins σ Q) X.xe s
  refine PySem.W.cmp_K (op := .Eq) (tb := .ref C) hr.units0 hF I.ok.mod.kin J J'.type (by simp [PySem.W.notFirst]) hs hf ?_
  refine wpAny_mono (own_run (neg := id) F hgd hr hb hx I I.env0 q) (fun r s' z => ?_) fun _ _ e => e
  obtain ⟨t, rfl, z⟩ := z
  exact z
theorem op_neO (F : FnG X.prog X.w X.K X.mg X.base CX k f fd ps sp) (hgd : X.A.guards = some []) (hr : Room (k + 1) X.A) (hb : Binds X.K fd ps []) (hx : Passes CX X.nox E)
    (hne : PySem.W.findIn X.K (.ref C) "__ne__" = some (some (.builtin "object.__ne__"))) (hm : PySem.W.mroIn X.K C (.type "object") = some true)
    (hs : PySem.W.findIn X.K (.ref C) "__eq__" = some (some (.ref f))) (hf : PySem.W.isFn X.K (.ref f) = true) : OpR X (compareOp .NotEq) (rOwn C sp E (!·)) := by
  (intro pins s σ H x y v u Q I rx ry h)
  obtain ⟨a, b, dx, dy, fs, gs, rfl, rfl, ha, hb', q⟩ := h
  cases rx
  cases ry
  (obtain ⟨mA, J, _⟩ := ins_get I.hok ha)
  (obtain ⟨mB, J', _⟩ := ins_get I.hok hb')
  obtain ⟨od, J, _⟩ := J.look
  (obtain ⟨od', J', _⟩ := J'.look)
  show wpAny (model X.prog X.w) X.A (richCompare .NotEq (.ref a) (.ref b)) (EP X pins σ Q) X.xe s
  exact ne_K (by have := hr.un; omega) I.kIn J J'.type hne hm hs hf (own_run (neg := (!·)) (A := X.A.in1) F hgd hr.in1 hb hx I I.env0.in1 q)
def ownQ (c : Str) (g : FnD) (neg : Bool → Bool) : Op2 := fun a b => match a, b with
  | .obj c1 fs, .obj c2 gs => if c1 = c ∧ c2 = c then bd (nx (g [.obj c1 fs, .obj c2 gs])) fun r => match r with
    | .bl t => ok (.bl (neg t))
    | _ => none else none
  | _, _ => none
theorem own_read {neg : Bool → Bool} (kc : ClsD X.K cl c C names) : OpD X.K cl (rOwn C (spP X.K cl 2 g) E neg) (ownQ c g neg) := by
  intro O H x y d e Q al rx ry h
  unfold ownQ at h
  cases d with
  | obj c1 fs =>
    cases e with
    | obj c2 gs =>
      dsimp only at h
      split at h
      · next ec =>
        obtain ⟨rfl, rfl⟩ := ec
        have rx0 := rx
        have ry0 := ry
        cases rx with
        | obj k0 e0 n0 r0 =>
          cases ry with
          | obj k1 e1 n1 r1 =>
            rw [kc.at_] at k0 k1
            cases k0
            cases k1
            refine ⟨_, _, _, _, _, _, rfl, rfl, (hide_some.mp e0).2, (hide_some.mp e1).2, rfl, O, _, al, .cons rx0 (.cons ry0 .nil), ?_⟩
            generalize g _ = mm at h ⊢
            match mm, h with
            | none, h => exact h.elim
            | some (.ex _ _), h => exact h.elim
            | some (.ok (.bl t)), h =>
              intro v H' sm rp
              cases rp
              exact ⟨t, rfl, h _ _ sm (.bl _)⟩
            | some (.ok .non), h => exact h.elim
      · exact h.elim
    | _ => exact h.elim
  | _ => exact h.elim
theorem k_eqO (kc : ClsD X.K cl c C names) (hm : Meth X.K C "__eq__" f) (F : FnG X.prog X.w X.K X.mg X.base (L2.CX X.prog X.w) k f fd ps (spP X.K cl 2 g)) (hgd : X.A.guards = some []) (hr : Room k X.A) (hb : Binds X.K fd ps []) : OpK X X.K cl (compareOp .Eq) (ownQ c g id) :=
  ⟨_, op_eqO F hgd hr hb passN hm.at_ hm.fn, own_read kc⟩
/-- no __ne__ of its own -/
def neB (K : PySem.W.Frag) (C : Addr) : Bool := He.eqO (PySem.W.findIn K (.ref C) "__ne__") (some (some (.builtin "object.__ne__"))) && decide (PySem.W.mroIn K C (.type "object") = some true)
theorem k_neO (kc : ClsD X.K cl c C names) (hm : Meth X.K C "__eq__" f) (hn : neB X.K C = true) (F : FnG X.prog X.w X.K X.mg X.base (L2.CX X.prog X.w) k f fd ps (spP X.K cl 2 g)) (hgd : X.A.guards = some []) (hr : Room (k + 1) X.A) (hb : Binds X.K fd ps []) : OpK X X.K cl (compareOp .NotEq) (ownQ c g (!·)) :=
  ⟨_, op_neO F hgd hr hb passN (He.eqO_ok (He.ba hn).1) (of_decide_eq_true (He.ba hn).2) hm.at_ hm.fn, own_read kc⟩
end
section
variable {X : Cx} {C : Addr} {names : List Str} {cl : Cl} {c m : Str} {wx : WX} {fo : S → M (D × S)} {v : V} {u : Value} {d : D} {o : Expr} {pos : Pos}
end
end Dt
namespace Dt
open L2 PySem PySem.Spec PyProof.Rows
/-! ### a dict that is locked while a statement runs -/
/-- two heaps, alike but for the locks on dicts -/
def Sim (H H' : Hp) : Prop := ∀ a, H' a = H a ∨ ∃ kvs od, (H a = some (.dK kvs) ∧ H' a = some (.frz od (.dK kvs))) ∨ (H a = some (.frz od (.dK kvs)) ∧ H' a = some (.dK kvs))
section
variable {H H' : Hp} {a : Addr} {K : PySem.W.Frag} {cl : Cl}
theorem Sim.at (s : Sim H H') {u : HO} (h : H a = some u) (n1 : ∀ kvs, u ≠ .dK kvs) (n2 : ∀ o kvs, u ≠ .frz o (.dK kvs)) : H' a = some u := by
  rcases s a with e | ⟨kvs, od, ⟨e, _⟩ | ⟨e, _⟩⟩
  · exact e.trans h
  · rw [h] at e
    cases e
    exact absurd rfl (n1 _)
  · rw [h] at e
    cases e
    exact absurd rfl (n2 _ _)
theorem Sim.rd (s : Sim H H') {u : HO} (h : Rd H a u) (n1 : ∀ kvs, u ≠ .dK kvs) (n2 : ∀ o kvs, u ≠ .frz o (.dK kvs)) : Rd H' a u := by
  rcases h with h | ⟨o, h⟩
  · exact .inl (s.at h n1 n2)
  · refine .inr ⟨o, s.at h (fun _ z => nomatch z) fun o' kvs z => ?_⟩
    cases z
    exact n1 _ rfl
theorem Sim.dic (s : Sim H H') {kvs : List (Key × V)} (h : Rd H a (.dK kvs)) : Rd H' a (.dK kvs) := by
  rcases s a with e | ⟨kvs', od, ⟨e, e'⟩ | ⟨e, e'⟩⟩
  · rcases h with h | ⟨o, h⟩
    · exact .inl (e.trans h)
    · exact .inr ⟨o, e.trans h⟩
  · rcases h with h | ⟨o, h⟩
    · rw [e] at h
      cases h
      exact .inr ⟨od, e'⟩
    · rw [e] at h
      cases h
  · rcases h with h | ⟨o, h⟩
    · rw [e] at h
      cases h
    · rw [e] at h
      cases h
      exact .inl e'
theorem Sim.seq (s : Sim H H') {xs : List V} (h : SqL K H a xs) : SqL K H' a xs := h.imp (fun h => s.rd h (fun _ z => nomatch z) fun _ _ z => nomatch z) id
theorem Sim.hide (s : Sim H H') (O : List Addr) : Sim (hide O H) (hide O H') := fun a => by
  unfold Dt.hide
  by_cases h : a ∈ O
  · rw [if_pos h, if_pos h]
    exact .inl rfl
  · rw [if_neg h, if_neg h]
    exact s a
end
section
variable {K : PySem.W.Frag} {cl : Cl} {wx : WX} {w : Wf} {L : List Addr} {sd : S} {σ : L2.St} {H : Hp} {d : Addr} {kvs : List (Key × V)} {od : Obj}
end
section
variable {K : PySem.W.Frag} {cl : Cl} {wx : WX} {ts us : List Nat} {F : S → M Out} {T : D → S → M S}
end
section
variable {X : Cx} {cl : Cl} {wx : WX} {pos : Pos} {body : List Stmt} {ts us : List Nat} {F : S → M Out} {T : D → S → M S} {tg : Expr}
end
end Dt
namespace Dt
open L2 PySem PySem.Spec PyProof.Rows
/-! ### C.m(..), m a staticmethod of C -/
def smB (K : PySem.W.Frag) (C m : Str) : Bool := PySem.W.readsIn K (He.ga K C) (.type "type") && (He.eqO (PySem.W.specialIn K (.ref (He.ga K C)) "__getattribute__") (some (some (.builtin "type.__getattribute__"))) &&
  ((match PySem.W.findCls K (.ref (He.ga K C)) (.type "type") m with
    | some (.get (.builtin id) (.ref p) .none (.ref D)) => decide (id = "staticmethod.__get__") && (decide (p = He.ma K (He.ga K C) m) && decide (D = He.ga K C))
    | _ => false) && PySem.W.keepIn K (.ref ((At.stat C m).adr K))))
structure SMet (K : PySem.W.Frag) (C : Addr) (m : Str) (p g : Addr) : Prop where
  rd : ClX.CRead K C (.type "type")
  at_ : PySem.W.findCls K (.ref C) (.type "type") m = some (.get (.builtin "staticmethod.__get__") (.ref p) .none (.ref C))
  rc : ∃ rest, PySem.W.recIn K p "staticmethod" = some (.ref g :: rest)
  kp : PySem.W.keepIn K (.ref g) = true
theorem sm_of {K : PySem.W.Frag} {C m : Str} (h : smB K C m = true) (h0 : (At.stat C m).ok K = true) : SMet K (He.ga K C) m (He.ma K (He.ga K C) m) ((At.stat C m).adr K) := by
  obtain ⟨h1, h⟩ := He.ba h
  obtain ⟨h2, h⟩ := He.ba h
  obtain ⟨h3, h4⟩ := He.ba h
  refine ⟨⟨h1, He.eqO_ok h2⟩, ?_, behind_ok h0, h4⟩
  split at h3
  · next id p D e =>
    obtain ⟨k1, k⟩ := He.ba h3
    obtain ⟨k2, k3⟩ := He.ba k
    (rw [e, of_decide_eq_true k1, of_decide_eq_true k2, of_decide_eq_true k3])
  · cases h3
section
variable {X : Cx} {pins : List (Addr × Obj)} {σ : L2.St} {H : Hp} {s : Shared} {C p g : Addr} {m : Str} {A : Around} {E : Value → Shared → Prop}
theorem getmethsm_ok {pl : Sem Bool} {Q : Value × List Value → Shared → Prop} (I : Inv X pins σ H s) (k : SMet X.K C m p g) (h : ∀ s', Inv X pins σ H s' → Q (.ref g, []) s') : wpAny (model X.prog X.w) A (getMethod (.ref C) m pl) Q E s := by
  refine PySem.W.method_cls I.kIn k.rd.ga ?_
  obtain ⟨rest, hp⟩ := k.rc
  refine PySem.W.cls_bind I.kIn k.rd.rd k.at_ ?_
  exact wpAny_call (PySem.W.sm_get (s := { s with toks := s.toks + 1 }) I.kIn hp (PySem.W.handed_on rfl (h _ (I.tok _))))
end
section
variable {X : Cx} {CX : CXT} {k n mm : Nat} {C p g : Addr} {fd : FuncData} {ps ks : List Str} {sp : Sp} {dvs : List V} {ds : List Value} {dd : List D} {E : L2.St → XK} {m x : Str} {p0 pos apos : Pos} {e : Expr} {es : List Expr} {kws : List Keyword} {t tk : TA} {cl : Cl} {wx : WX} {fr fk : S → M (List D × S)} {gf : FnD}
  {gv : List Value → List Value → List Value} {gV : List V → List V → List V} {gD : List D → List D → List D}
theorem pe_smethG {pl : Sem Bool} (cm : SMet X.K C m p g) (F : FnG X.prog X.w X.K X.mg X.base CX k g fd ps sp) (hgd : X.A.guards = some []) (hr : Room k X.A) (hm : X.mg x = some (.ref C)) (hb : Binds X.K fd ps ds) (hd : Vals dvs ds) (hx : ∀ σ, PassesAt CX X σ (E σ))
    (ha : PA X (e :: es) t) (hg : Gl X x := by rfl) (hdb : (x == ("__debug__" : Str)) = false := by decide) (hs : starEach (e :: es) X.env = (false, eval e X.env) :: starEach es X.env := by rfl) (hpl : (backTo pos (starEach es X.env)).any (·.1) = false := by rfl)
    (ht : eval (.Call (.Attribute (.Name x p0) m apos) (e :: es) [] pos) X.env = (do
      let ov ← eval (.Name x p0) X.env
      standAt apos.atName
      let (f, first) ← holding [ov]
            (getMethod ov m pl)
      callWith pos f first (backTo pos (starEach (e :: es) X.env)) (backToKw pos (keywordEach [] X.env))) := by rfl) : PE X (.Call (.Attribute (.Name x p0) m apos) (e :: es) [] pos) (tCallX sp dvs E t) := by
  constructor
  intro pins s σ H Q I h
  refine PySem.W.methodCall_KW (pl := pl) (ld_glob I hg hm ?_ hdb) ht
  refine getmethsm_ok I cm fun s2 I2 => ?_
  refine PySem.W.callWith_K (h₀ := X.base) I2.ok.mod.kin cm.kp (thn (ha.run pos pins s2 σ H _ I2 h) ?_) hs hpl
  rintro us s1 ⟨vs, H1, I1, r, q⟩
  have rr : Vals (vs ++ dvs) (us ++ ds) := r.append hd
  have hl : (us ++ ds).length = ps.length := rr.length.symm.trans (F.len _ _ _ _ q)
  exact ⟨I1.kIn, ran (hx σ) I1 (F.go X.A X.stack s1 H1 ⟨us, []⟩ (us ++ ds) (vs ++ dvs) Q (E σ) hgd hr I1.env0 (hb s1 us I1.kIn hl) rr q)⟩
theorem d_smeth {pl : Sem Bool} (cm : SMet X.K C m p g) (F : FnG X.prog X.w X.K X.mg X.base (L2.CX X.prog X.w) k g fd ps (spP X.K cl n gf)) (hgd : X.A.guards = some []) (hr : Room k X.A) (hm : X.mg x = some (.ref C)) (hb : Binds X.K fd ps ds) (hd : Vals dvs ds) (hdd : ∀ H : Hp, RpA X.K cl H dvs dd)
    (ha : PA X (e :: es) (TAof X.K cl wx fr)) (hg : Gl X x := by rfl) (hdb : (x == ("__debug__" : Str)) = false := by decide) (hs : starEach (e :: es) X.env = (false, eval e X.env) :: starEach es X.env := by rfl) (hpl : (backTo pos (starEach es X.env)).any (·.1) = false := by rfl)
    (ht : eval (.Call (.Attribute (.Name x p0) m apos) (e :: es) [] pos) X.env = (do
      let ov ← eval (.Name x p0) X.env
      standAt apos.atName
      let (f, first) ← holding [ov]
            (getMethod ov m pl)
      callWith pos f first (backTo pos (starEach (e :: es) X.env)) (backToKw pos (keywordEach [] X.env))) := by rfl) (tk : Takes X wx := by first | assumption | exact takes_no) :
    PE X (.Call (.Attribute (.Name x p0) m apos) (e :: es) [] pos) (TEof X.K cl wx (dCallU n gf dd fr)) :=
  iE (pe_smethG cm F hgd hr hm hb hd (fun σ => passAt tk σ) ha hg hdb hs hpl ht) (call_readP hdd)
/-- C.m(k = v, ..) -/
theorem d_smethK0 {pl : Sem Bool} (cm : SMet X.K C m p g) (F : FnG X.prog X.w X.K X.mg X.base (L2.CX X.prog X.w) k g fd ps (spP X.K cl n gf)) (hgd : X.A.guards = some []) (hr : Room k X.A) (hm : X.mg x = some (.ref C)) (hb : KBn X.K fd ps 0 ks gv gV)
    (hgV : ∀ (H : Hp) vs zs as bs, RpA X.K cl H vs as → RpA X.K cl H zs bs → RpA X.K cl H (gV vs zs) (gD as bs)) (hkw : PK X kws (TAof X.K cl wx fk)) (hg : Gl X x := by rfl)
    (hall : (backToKw pos (keywordEach kws X.env)).all (·.1.isSome) = true := by rfl) (hks
          : (backToKw pos (keywordEach kws X.env)).filterMap (·.1) = ks := by rfl) (hdb : (x == ("__debug__" : Str)) = false := by decide)
    (hpl : ((backTo pos (starEach [] X.env)).any (·.1) || (backToKw pos (keywordEach kws X.env)).any (·.1.isNone)) = false := by rfl)
    (ht : eval (.Call (.Attribute (.Name x p0) m apos) [] kws pos) X.env = (do
      let ov ← eval (.Name x p0) X.env
      standAt apos.atName
      let (f, first) ← holding [ov]
            (getMethod ov m pl)
      callWith pos f first (backTo pos (starEach [] X.env)) (backToKw pos (keywordEach kws X.env))) := by rfl) (tk : Takes X wx := by first | assumption | exact takes_no) :
    PE X (.Call (.Attribute (.Name x p0) m apos) [] kws pos) (TEof X.K cl wx (dCallK n 0 ks.length gf gD aNil fk)) := by
  constructor
  intro pins s σ H Q I h
  obtain ⟨w, L, sd, W, h⟩ := h
  unfold dCallK at h
  have h : PostE X.K cl wx w L σ H Q (bd (fk sd) fun q => if ([] : List D).length = 0 ∧ q.1.length = ks.length ∧ (gD [] q.1).length = n then bdC (gf (gD [] q.1)) q.2 fun r => ok (r, q.2) else none) := h
  refine PySem.W.methodCall_KW (pl := pl) (ld_glob I hg hm ?_ hdb) ht
  refine getmethsm_ok I cm fun s2 I2 => ?_
  refine PySem.W.callWith_KW0 (h₀ := X.base) I2.ok.mod.kin cm.kp hall (thn (hkw.run pos pins s2 σ H (fun zs H2 => zs.length = ks.length ∧ spP X.K cl n gf (gV [] zs) H2 Q (WE wx σ)) I2 ?_) ?_) hpl
  · refine ⟨w, L, sd, W, PostA.bd botE h fun qs s2 h zs H2 st2 W2 rqs => ?_⟩
    dsimp only at h
    split at h
    · next c =>
      have rr := hgV (hide (L ++ w.O0) H2) [] zs [] qs .nil rqs
      exact ⟨rqs.len.trans c.2.1, rr.len.trans c.2.2, L ++ w.O0, _, W2.alive, rr, h.finC st2 W2⟩
    · exact h.elim
  · rintro ws s2 ⟨zs, H2, I2, rz, l2, q2⟩
    rw [hks]
    have r2 := hb.rel (vs := []) (us := []) .nil rz
    exact ⟨I2.kIn, ran (passAt tk σ) I2 (F.go X.A X.stack s2 H2 ⟨[], ks.zip ws⟩ (gv [] ws) (gV [] zs) Q (WE wx σ) hgd hr I2.env0 (hb.to s2 [] ws I2.kIn rfl (rz.length.symm.trans l2)) r2 q2)⟩
end
end Dt
namespace Dt
open L2 PySem PySem.Spec PyProof.Rows
/-! ### a Hook that looks at addresses that are told to it -/
/-- a list of small numbers, as one number -/
def decF : Nat → Nat → List Nat
  | 0, _ => []
  | n + 1, k => match Nat.beq k 0 with
    | true => []
    | false => Nat.pred (Nat.mod k 1000000) :: decF n (Nat.div k 1000000)
def obsL (as : List Addr) (fa : List He.Fa) (fn : List DefC) (ex : PySem.W.Frag → Bool) (g : Addr → Option Obj) : AlC := obsC fa fn ex (He.frG g as)
def hookL (as : List Addr) (fa : List He.Fa) (fn : List DefC) (ex : PySem.W.Frag → Bool) : PySem.W.Hook where
  α := AlC
  obs := fun s => obsL as fa fn ex s.heap.get?
  val := fun _ => valC fn
  says := fun _ h => ∃ K : PySem.W.Frag, K.In h ∧ SaysC fa fn ex K
  of := fun _ _ e => ⟨_, He.frG_in, e⟩
  keeps := fun _ _ _ ⟨K, hK, c0⟩ ks => ⟨K, PySem.W.Frag.In.keeps hK ks, c0⟩
theorem obsL_eq {as : List Addr} {fa : List He.Fa} {fn : List DefC} {ex : PySem.W.Frag → Bool} {g : Addr → Option Obj} {s : Shared} (h : ∀ a, g a = s.heap.get? a) : obsL as fa fn ex g = (hookL as fa fn ex).obs s := by
  obtain rfl : g = s.heap.get? := funext h
  rfl
end Dt
namespace Dt
open L2 PySem PySem.Spec PyProof.Rows
/-! ### small helps for the printed texts -/
theorem tb_nil {β : Type} {P : Str → β → Prop} : ∀ c b, ([] : List (Str × β)).lookup c = some b → P c b := fun _ _ h => by cases h
theorem tb_cons {β : Type} {P : Str → β → Prop} {c0 : Str} {b0 : β} {l : List (Str × β)} (h : P c0 b0) (r : ∀ c b, l.lookup c = some b → P c b) : ∀ c b, ((c0, b0) :: l).lookup c = some b → P c b := fun c b e => by
  rw [List.lookup_cons] at e
  split at e
  · next q =>
    cases e
    rw [beq_iff_eq.mp q]
    exact h
  · exact r c b e
def exmX (K : PySem.W.Frag) (a b : Value) (v : Bool) : Bool := decide (PySem.W.exmOne K a b = some v)
theorem exmX_ok {K : PySem.W.Frag} {a b : Value} {v : Bool} (h : exmX K a b v = true) : PySem.W.exmOne K a b = some v := of_decide_eq_true h
def kitX (K : PySem.W.Frag) (a b : Value) (v : Bool) : Bool := decide (PySem.W.kitOne K a b = some v)
theorem kitX_ok {K : PySem.W.Frag} {a b : Value} {v : Bool} (h : kitX K a b v = true) : PySem.W.kitOne K a b = some v := of_decide_eq_true h
theorem namesG {X : Cx} {x : Str} {c : Value} (hm : X.mg x = some c) (hg : Gl X x := by rfl) (hd : (x == ("__debug__" : Str)) = false := by decide) : Names X x c := ⟨hg, hd, .inl hm⟩
theorem fn_type {K : PySem.W.Frag} {f : Addr} (h : PySem.W.isFn K (.ref f) = true) : PySem.W.typeIn K (.ref f) = some (.type "function") := by
  unfold PySem.W.isFn at h
  simpa using h
end Dt
namespace Dt
open L2 PySem PySem.Spec PyProof.Rows
/-! ### def m(self, *v) -/
def spW (K : PySem.W.Frag) (cl : Cl) (g : FnD) : Sp := fun vs H Q E => ∃ (O : List Addr) (v0 : V) (ws : List V) (d0 : D) (ds : List D), vs = v0 :: ws ∧ (∀ a ∈ O, H a ≠ none) ∧ Rp K cl (hide O H) v0 d0 ∧ RpA K cl (hide O H) ws ds ∧ ds.length ≤ sizeLine ∧ FinD K cl O H Q E (g [d0, .tup ds])
theorem okW {P : Program} {w : World} {K : PySem.W.Frag} {cl : Cl} {wx : WX} {mg : Str → Option Value} {base : Heap} {k : Nat} {f : Addr} {fd : FuncData} {pu pv x qual : Str} {params : Arguments} {body : List Stmt} {scope : Scope} {N : List Str} {F : S → M Out} {g : FnD}
    (D0 : FunD K x qual params body scope [] [] f fd) (sc : FnScope N [pu, pv] scope) (eg : g = runP N.length F)
    (hb : ∀ (kV doc pm : Value) (an : Option Addr) (cdv ct : Value) (u0 : Value) (rest : List Value), bindArgs (PySem.W.fnOf x qual params body scope .none kV doc pm an cdv ct) ⟨u0 :: rest, []⟩ = (newTuple rest >>= fun t => pure [(pu, u0), (pv, t)]))
    (h : ∀ (cdv : Value) (A : Around) (outer : List Env) (s : Shared) (H : Hp) (E : XK), A.guards = some [] → Room k (A.deeper (envOfC qual scope s.heap.objs.size f cdv)) →
      Takes (cxOf (L2.CX P w) P w K mg base N qual scope f cdv A outer s H E) (wxE E) → PassesOwn (model P w) (cxOf (L2.CX P w) P w K mg base N qual scope f cdv A outer s H E).A (cxOf (L2.CX P w) P w K mg base N qual scope f cdv A outer s H E).env (cxOf (L2.CX P w) P w K mg base N qual scope f cdv A outer s H E).xe →
      ∃ ts, PSs (cxOf (L2.CX P w) P w K mg base N qual scope f cdv A outer s H E) body (TSof K cl (wxE E) ts F)) : FnV P w K mg base (k + 1) f (spW K cl g) := by
  subst eg
  obtain ⟨oc, od, dV, kV, doc, pm, an, cdv, ct, osl, rfl, lk, hcd, hD, _⟩ := D0.ex
  have hdv : dV = .none := by
    rcases hD with ⟨_, z⟩ | ⟨z, _⟩
    · exact z
    · exact absurd rfl z
  subst hdv
  refine ⟨fun A outer s H us vs Q E hg hr e0 rv hsp => ?_⟩
  obtain ⟨O, v0, ws, d0, ds, rfl, al, r0, rs, hl, hq⟩ := hsp
  have np : H s.heap.objs.size = none := e0.hok.fresh (Nat.le_refl _)
  cases rv with
  | cons ru rv =>
  rename_i u0 us
  have len : us.length ≤ sizeLine := by
    rw [← rv.length, rs.len]
    exact hl
  refine StX.run_bnd (CX := L2.CX P w) lk hcd sc hr e0 (G := fun xs H2 => xs = [v0, V.ref s.heap.objs.size] ∧ H2 = upd H s.heap.objs.size (.tup ws)) (fun A' Ex Q' z => ?_) fun s2 H2 xs ⟨ex, eH⟩ hr' => ?_
  · rw [hb]
    refine wpAny_bind (wpAny_newTuple (wpAny_pure ?_) len)
    have new : ObjOk P w (upd H s.heap.objs.size (.tup ws)) (s.heap.push ({ cls := .type "tuple", data := .seq us.toArray } : Obj)) s.heap.objs.size (.tup ws) := ⟨by rw [rs.len]; exact hl, us, rv, ⟨_, Heap.get?_push_size _ rfl, rfl, _, rfl⟩⟩
    have un := StX.un_laid (fs := frs outer) (s := s) (o := ({ cls := .type "tuple", data := .seq us.toArray } : Obj)) (u := .tup ws) np
    exact z _ _ [v0, V.ref s.heap.objs.size] [u0, Value.ref s.heap.objs.size] (StX.env0_laid e0 new) un rfl (fun e s' => StX.cxUp outer s H _ _ E e s' un (fun b o q => Heap.get?_push_of_some _ q) rfl) (.cons ru (.cons rfl .nil)) rfl ⟨rfl, rfl⟩
  · subst ex eH
    obtain ⟨ts, hw⟩ := h cdv A outer s2 (upd H s.heap.objs.size (.tup ws)) E hg hr' (takes_of rfl rfl rfl rfl) (passes_of rfl)
    have sm := same_upd (o := .tup ws) np
    have pr : spP K cl 2 (runP N.length F) [v0, V.ref s.heap.objs.size] (upd H s.heap.objs.size (.tup ws)) Q E := by
      refine ⟨rfl, O, [d0, .tup ds], fun a ha => ?_, .cons (r0.mono (hide_upd np)) (.cons (.tup (.inl (.inl (hide_new al np))) (rs.mono (hide_upd np))) .nil), ?_⟩
      · have n := al a ha
        cases q : H a with
        | none => exact absurd q n
        | some o =>
          rw [sm a o q]
          simp
      · generalize runP N.length F [d0, .tup ds] = m at hq
        match m, hq with
        | none, hq => exact hq.elim
        | some (.ex _ _), hq => exact fun cls d H' a b => hq cls d H' (fun b' o' e' => a b' o' (sm b' o' e')) b
        | some (.ok r), hq => exact fun v H' a b => hq v H' (fun b' o' e' => a b' o' (sm b' o' e')) b
    obtain ⟨t, t1, t2⟩ := walkP hw pr
    exact ⟨t, t1, t2⟩
/-! ### o.m(e, ..) of def m(self, *v) -/
def dMethV (c : Str) (g : FnD) (fo : S → M (D × S)) (fr : S → M (List D × S)) : S → M (D × S) := fun s => bd (fo s) fun o => match o.1 with
  | .obj c' _ => if c' = c then bd (fr o.2) fun p => if p.1.length ≤ sizeLine then bdC (g [o.1, .tup p.1]) p.2 fun r => ok (r, p.2) else none else none
  | _ => none
section
variable {X : Cx} {k : Nat} {f C : Addr} {m c : Str} {pos apos : Pos} {e o : Expr} {es : List Expr} {cl : Cl} {wx : WX} {fo : S → M (D × S)} {fr : S → M (List D × S)} {g : FnD} {names : List Str}
end
end Dt
namespace Dt
open PySem PySem.Spec PyProof PyProof.Rows L2
/-! ### sorted(t), t a tuple of pairs of ints -/
section
variable {prog : Program} {w : World} {A : Around} {E : Value → Shared → Prop} {sh : Shared}
end
/-! ### as data -/
/-- values that are these pairs -/
inductive Prs (K : PySem.W.Frag) (H : Hp) : List V → List (Int × Int) → Prop
  | nil : Prs K H [] []
  | cons {t : Addr} {p : Int × Int} {xs : List V} {ps : List (Int × Int)} : SqT K H t [.int p.1, .int p.2] → Prs K H xs ps → Prs K H (.ref t :: xs) (p :: ps)
theorem Prs.mono {K : PySem.W.Frag} {H H' : Hp} (s : Same H H') : ∀ {xs : List V} {ps : List (Int × Int)}, Prs K H xs ps → Prs K H' xs ps
  | _, _, .nil => .nil
  | _, _, .cons h r => .cons (same_sqT s h) (r.mono s)
end Dt
namespace Dt
open L2 PySem PySem.Spec PyProof.Rows
/-! ### tuples of values and new objects -/
section
variable {K : PySem.W.Frag} {cl : Cl} {wx : WX} {w : Wf} {L L' : List Addr} {s s1 s2 : S} {σ : L2.St} {H H1 H2 : Hp} {p : Addr}
/-- values and new objects; P: the addresses of the new ones -/
inductive Mix (K : PySem.W.Frag) (cl : Cl) (h0 : Hp) (O : List Addr) (H : Hp) : List Addr → List V → List Sl → Prop
  | nil : Mix K cl h0 O H [] [] []
  | val {P : List Addr} {v : V} {vs : List V} {d : D} {ss : List Sl} : Rp K cl (hide O H) v d → Mix K cl h0 O H P vs ss → Mix K cl h0 O H P (v :: vs) (.val d :: ss)
  | own {P : List Addr} {p : Addr} {vs : List V} {d : D} {ss : List Sl} : OwnAt K cl h0 O H p d → p ∉ P → Mix K cl h0 O H P vs ss → Mix K cl h0 O H (p :: P) (.ref p :: vs) (.own d :: ss)
theorem Mix.move {h0 : Hp} {O O' : List Addr} (s : Same (hide O H) (hide O' H)) : ∀ {P : List Addr} {vs : List V} {ss : List Sl}, Mix K cl h0 O H P vs ss → Mix K cl h0 O' H P vs ss
  | _, _, _, .nil => .nil
  | _, _, _, .val r m => .val (r.mono s) (m.move s)
  | _, _, _, .own r n m => .own (r.move rfl s) n (m.move s)
def PostM (K : PySem.W.Frag) (cl : Cl) (wx : WX) (w : Wf) (L : List Addr) (σ : L2.St) (H : Hp) (Q : List V → Hp → Prop) : M (List Sl × S) → Prop
  | some (.ok (ss, s')) => ∀ P vs H', Step w L H (P ++ L) H' → (∀ p ∈ P, p ∉ L ++ w.O0) → Wl K cl w L s' σ H' → Wl K cl w (P ++ L) s' σ H' → Mix K cl w.H0 (P ++ L ++ w.O0) H' P vs ss → Q vs H'
  | some (.ex e s') => Wish K cl wx w e s'
  | none => False
theorem PostM.bd {m : M (List Sl × S)} {β : Type} {P : M β → Prop} (hb : Bot K cl wx w P) {f : List Sl × S → M β} {Q : List V → Hp → Prop} (h : P (bd m f))
    (k : ∀ ss s1, P (f (ss, s1)) → ∀ A vs H1, Step w L H (A ++ L) H1 → (∀ p ∈ A, p ∉ L ++ w.O0) → Wl K cl w L s1 σ H1 → Wl K cl w (A ++ L) s1 σ H1 → Mix K cl w.H0 (A ++ L ++ w.O0) H1 A vs ss → Q vs H1) : PostM K cl wx w L σ H Q m := by
  match m, h with
  | none, h => exact (hb.no h).elim
  | some (.ex e s'), h => exact hb.ex e s' h
  | some (.ok (ss, s1)), h => exact fun A vs H1 a b c d e => k ss s1 h A vs H1 a b c d e
theorem Wish.more {e : Ex} (W1 : Wl K cl w L s1 σ H1) (h : Wish K cl wx w e s2) : Wish K cl wx (w.more p) e s2 := fun L2 σ2 H2 cls d W x => by
  refine h L2 σ2 H2 cls d ?_ (x.mono (hide_sub fun a ha => mem_more.mpr (.inr ha)))
  have sh : Same (hide (L2 ++ (w.more p).O0) H2) (hide (L2 ++ w.O0) H2) := hide_sub fun a ha => mem_more.mpr (.inr ha)
  refine ⟨W.keep, W.fresh, fun a ha => W.alive a (mem_more.mpr (.inr ha)), fun a ha z => W.disj a ha (List.mem_cons_of_mem _ z), W1.sub, ⟨fun i d e => ?_, fun i d e => ?_, fun i d e => ?_, W.st.inj, W.st.ioj, W.st.len, W.st.tr.same sh rfl fun x hx _ _ => ⟨rfl, hx⟩⟩⟩
  · obtain ⟨v, h1, h2⟩ := W.st.val i d e
    exact ⟨v, h1, h2.mono sh⟩
  · obtain ⟨a, h1, h2, h3⟩ := W.st.own i d e
    exact ⟨a, h1, h2, h3.move rfl sh⟩
  · obtain ⟨h1, h2, h3⟩ := W.st.io i d e
    exact ⟨h1, h2, h3.move rfl sh⟩
end
def mNil : S → M (List Sl × S) := fun s => ok ([], s)
def mVal (f : S → M (D × S)) (fr : S → M (List Sl × S)) : S → M (List Sl × S) := fun s => bd (f s) fun p => bd (fr p.2) fun q => ok (.val p.1 :: q.1, q.2)
def mOwn (f : S → M (D × S)) (fr : S → M (List Sl × S)) : S → M (List Sl × S) := fun s => bd (f s) fun p => bd (fr p.2) fun q => ok (.own p.1 :: q.1, q.2)
section
variable {X : Cx} {K : PySem.W.Frag} {cl : Cl} {wx : WX} {e : Expr} {es : List Expr} {f : S → M (D × S)} {fr : S → M (List Sl × S)}
end
/-! ### stores -/
section
variable {K : PySem.W.Frag} {cl : Cl} {w : Wf} {L : List Addr} {s : S} {σ : L2.St} {H : Hp} {p : Addr} {d : D}
/-- the own slots' addresses -/
def Held (K : PySem.W.Frag) (cl : Cl) (H : Hp) (B : List Addr) (s : S) (σ : L2.St) : Prop := (∀ (j : Nat) (e : D) (a : Addr), s[j]? = some (.own e) → σ[j]? = some (some (.ref a)) → a ∈ B) ∧ ∀ x, TrIn K cl H σ s x → x ∈ B
theorem Wl.held (W : Wl K cl w L s σ H) : Held K cl H (L ++ w.I) s σ := ⟨fun j e a h1 h2 => by
  obtain ⟨b, q1, q2, _⟩ := W.st.own j e h1
  rw [h2] at q1
  cases q1
  exact List.mem_append_left _ q2, fun x t => List.mem_append.mpr (W.st.tr.inn t)⟩
theorem trIn_set {i : Nat} {x : Sl} {v : Option V} {z : Addr} (hx : ∀ b d, x ≠ .tre b d) (t : TrIn K cl H (σ.set i v) (s.set i x) z) : TrIn K cl H σ s z := by
  obtain ⟨j, b, d, a, g, fp, q1, q2, q3⟩ := t
  by_cases zz : j = i
  · subst zz
    by_cases hl : j < s.length
    · rw [List.getElem?_set_self hl] at q1; cases q1; exact absurd rfl (hx b d)
    · rw [List.getElem?_eq_none (by simpa using hl)] at q1; cases q1
  · rw [List.getElem?_set_ne (Ne.symm zz)] at q1 q2
    exact ⟨j, b, d, a, g, fp, q1, q2, q3⟩
theorem Held.set {B : List Addr} (h : Held K cl H B s σ) (i : Nat) {v : V} {x : D} : Held K cl H B (s.set i (.val x)) (σ.set i (some v)) := ⟨fun j e a h1 h2 => by
  by_cases z : j = i
  · subst z
    by_cases hl : j < s.length
    · rw [List.getElem?_set_self hl] at h1; cases h1
    · rw [List.getElem?_eq_none (by simpa using hl)] at h1; cases h1
  · rw [List.getElem?_set_ne (Ne.symm z)] at h1 h2
    exact h.1 j e a h1 h2, fun z t => h.2 z (trIn_set (fun b d q => by cases q) t)⟩
theorem Held.setOwn {B : List Addr} (h : Held K cl H B s σ) (i : Nat) : Held K cl H (p :: B) (s.set i (.own d)) (σ.set i (some (.ref p))) := ⟨fun j e a h1 h2 => by
  by_cases z : j = i
  · subst z
    by_cases hl : j < σ.length
    · rw [List.getElem?_set_self hl] at h2; cases h2
      exact List.mem_cons_self
    · rw [List.getElem?_eq_none (by simpa using hl)] at h2; cases h2
  · rw [List.getElem?_set_ne (Ne.symm z)] at h1 h2
    exact List.mem_cons_of_mem _ (h.1 j e a h1 h2), fun z t => List.mem_cons_of_mem _ (h.2 z (trIn_set (fun b d q => by cases q) t))⟩
theorem Mix.len {h0 : Hp} {O : List Addr} {H : Hp} : ∀ {P : List Addr} {vs : List V} {ss : List Sl}, Mix K cl h0 O H P vs ss → vs.length = ss.length
  | _, _, _, .nil => rfl
  | _, _, _, .val _ m => congrArg (· + 1) m.len
  | _, _, _, .own _ _ m => congrArg (· + 1) m.len
end
/-! ### x, y = (e, f); x, y, z = (e, f, g): any mixture -/
def sParM2 (i j : Nat) (fr : S → M (List Sl × S)) : S → M Out := fun s => bd (fr s) fun p => match p.1 with
  | [a, b] => ok (.nx ((p.2.set i a).set j b))
  | _ => none
def sParM3 (i j l : Nat) (fr : S → M (List Sl × S)) : S → M Out := fun s => bd (fr s) fun p => match p.1 with
  | [a, b, c] => ok (.nx (((p.2.set i a).set j b).set l c))
  | _ => none
section
variable {X : Cx} {K : PySem.W.Frag} {cl : Cl} {wx : WX} {pos : Pos} {a b c : Expr} {fr : S → M (List Sl × S)}
end
end Dt
namespace Dt
open L2 PySem PySem.Spec PyProof.Rows
/-! ### sum of a tuple of ints -/
section
variable {prog : Program} {w : World} {A : Around} {E : Value → Shared → Prop} {s : Shared} {l : Addr}
end
/-! ### a, b, .. = a list -/
def gLs (f : List D → S → M S) : D → S → M S := fun d s => match d with
  | .lst ds => f ds s
  | _ => none
instance (f : List D → S → M S) [a : NoXs f] : NoX (gLs f) := ⟨fun d s e s' h => by
  cases d with
  | lst ds => exact a.no _ _ _ _ h
  | _ => cases h⟩
end Dt
namespace Dt
open L2 PySem PySem.Spec PyProof.Rows
/-! ### [e for x in a if .. for y in b if ..] -/
section
variable {X : Cx} {K : PySem.W.Frag} {cl : Cl} {wx : WX} {pos : Pos}
end
end Dt
namespace Dt
open L2 PySem PySem.Spec PyProof.Rows
/-! ### xs.extend(a new list) -/
section
variable {X : Cx} {cl : Cl} {wx : WX} {pos : Pos} {e : Expr} {f : S → M (D × S)}
end
/-! ### a = b = e -/
def sSet2 (i j : Nat) (f : S → M (D × S)) : S → M Out := fun s => bd (f s) fun p => ok (.nx ((p.2.set i (.val p.1)).set j (.val p.1)))
section
variable {X : Cx} {K : PySem.W.Frag} {cl : Cl} {wx : WX} {pos : Pos} {e : Expr} {f : S → M (D × S)}
end
end Dt
namespace Dt
open PySem PySem.Spec PyProof.Rows L2 GenW
/-! ### a generator drawn from by a built-in: what the sleeper promises -/
end Dt
namespace Dt
open PySem PySem.Spec PyProof.Rows L2 GenW
/-- the same content, another around -/
abbrev atA (X : Cx) (A : Around) : Cx := { X with A := A }
/-- what the list's maker has -/
structure CnL (K : PySem.W.Frag) (cl : Cl) (S : Addr) (O : List Addr) (σ0 : L2.St) (H0 : Hp) (n : Nat) (zs : List D) (j : Nat) (L O' : List Addr) (σ : L2.St) (H : Hp) (vs : List V) : Prop where
  le : n - j ≤ zs.length
  jn : j ≤ n
  o : O' = S :: O
  sg : σ = σ0
  sm : Same H0 H
  lst : H S = some (.lst vs)
  rp : RpA K cl (hide (L ++ S :: O) H) vs (zs.take (n - j))
  fr : ∀ a ∈ L, H0 a = none
  nS : S ∉ L
theorem CnL.step {K : PySem.W.Frag} {cl : Cl} {S : Addr} {O : List Addr} {σ0 : L2.St} {H0 Hw H : Hp} {n : Nat} {zs : List D} {j : Nat} {Lw L O' : List Addr} {σ : L2.St} {vs : List V} (c : CnL K cl S O σ0 H0 n zs j Lw O' σ Hw vs) (st : Step (wg O') Lw Hw L H) (ho : ∀ a ∈ L, a ∉ O') : CnL K cl S O σ0 H0 n zs j L O' σ H vs := by
  have eo := c.o
  subst eo
  refine ⟨c.le, c.jn, rfl, c.sg, fun b o e => ?_, st.keep _ _ c.nS (by simp) c.lst, ?_, fun a ha => ?_, fun z => ho S z List.mem_cons_self⟩
  · refine st.keep b o (fun z => ?_) (by simp) (c.sm b o e)
    rw [c.fr b z] at e
    cases e
  · exact c.rp.mono (Step.seen (w := wg (S :: O)) st (by simp))
  · rcases st.new a ha with z | z
    · exact c.fr a z
    · cases q : H0 a with
      | none => rfl
      | some o =>
        rw [c.sm a o q] at z
        cases z
theorem same_alive {H H' : Hp} (s : Same H H') {a : Addr} (h : H a ≠ none) : H' a ≠ none := by
  cases q : H a with
  | none => exact absurd q h
  | some o =>
    rw [s a o q]
    simp
theorem CnL.apart {K : PySem.W.Frag} {cl : Cl} {S : Addr} {O : List Addr} {σ0 : L2.St} {H0 Hw H : Hp} {n : Nat} {zs : List D} {j : Nat} {Lw L O' : List Addr} {σ : L2.St} {vs : List V} (c : CnL K cl S O σ0 H0 n zs j Lw (S :: O) σ Hw vs) (hS0 : H0 S = none) (hO : ∀ a ∈ O, H0 a ≠ none) (st : Step (wg O') Lw Hw L H) {a : Addr} (ha : a ∈ L) (hz : a ∈ S :: O) : False := by
  rcases st.new a ha with y | y
  · rcases List.mem_cons.mp hz with rfl | hz
    · exact c.nS y
    · exact hO a hz (c.fr a y)
  · rcases List.mem_cons.mp hz with rfl | hz
    · rw [c.lst] at y
      cases y
    · exact same_alive c.sm (hO a hz) y
/-! ### the mirror -/
/-- it ends within n items -/
def Drains (B : GM) (sl : List Sl) (n : Nat) (zs : List D) : Prop := 0 < n ∧ ∃ x, B n sl = ok (zs, some x) ∧ ends? (some x) = true ∧ zs.length ≤ sizeLine
theorem Drains.one {B : GM} (px : Pfx B) {sl : List Sl} {n k : Nat} {zs ys : List D} (h : Drains B sl n zs) (h' : Drains B sl k ys) : zs = ys := by
  have go : ∀ {n k : Nat} {zs ys : List D}, n ≤ k → Drains B sl n zs → Drains B sl k ys → zs = ys := by
    intro n k zs ys l ⟨h1, x, h2, h3, _⟩ ⟨k1, y, k2, k3, _⟩
    have c := (px k _ ys (some y) k1 k2).cut n h1 l
    rw [h2] at c
    have c : (zs, some x) = Cut ys (some y) n := by
      have c : (some (.ok (zs, some x)) : M (List D × Option Out)) = some (.ok (Cut ys (some y) n)) := c
      injection c with c
      injection c
    unfold Cut at c
    split at c
    · cases c
      rfl
    · cases c
  rcases Nat.le_total n k with l | l
  · exact go l h h'
  · exact (go l h' h).symm
section
variable {X : Cx} {cl : Cl} {wx : WX} {e : Expr} {fa : S → M (List D × S)} {B : GM} {g : GD} {ar k : Nat} {nm : Str} {p pos : Pos}
end
end Dt
namespace Dt
open PySem PySem.Spec PyProof.Rows L2 GenW
section
variable {X : Cx} {cl : Cl} {wx : WX} {k n : Nat} {f C : Addr} {fd : FuncData} {ps : List Str} {g : GD} {dvs : List V} {ds : List Value} {dd : List D} {x : Str} {m c : Str} {p pos apos : Pos} {e o : Expr} {es : List Expr} {fo : S → M (D × S)} {fr : S → M (List D × S)} {names : List Str}
end
end Dt
namespace Dt
open PySem PySem.Spec PyProof.Rows L2 GenW
section
variable {prog : Program} {w : World} {A : Around} {E : Value
      → Shared → Prop} {s : Shared}
end
section
variable {prog : Program} {w : World} {A : Around} {E : Value → Shared → Prop} {s : Shared} {z TI TO i1 a : Addr} {a1 a2 : Value}
end
end Dt
namespace Dt
open PySem PySem.Spec PyProof.Rows L2 GenW
section
variable {X : Cx} {pins : List (Addr × Obj)} {σ : L2.St} {H H' : Hp} {s : Shared} {g1 : Heap} {t' : Nat} {Z : List Addr}
end
abbrev xIs (a : Addr) (o : Obj) : HO := .ext fun h => h.get? a = some o
abbrev zOb (TI TO : Addr) (f0 : Value) : Obj := { cls := .type "zip", dict := none, data := .fields #[f0, .bool false, .bool false, .ref TI, .ref TO], slots := #[] }
abbrev pOb (v y : Value) : Obj := { cls := .type "tuple", data := .seq #[v, y] }
abbrev rOb (x left : Int) : Obj := { cls := .type "range_iterator", dict := none, data := .fields #[rawInt x, rawInt left, rawInt 1], slots := #[] }
structure ZAt (z TI TO i1 : Addr) (f0 : Value) (P : Value → Prop) (x left : Int) (H : Hp) : Prop where
  z : H z = some (xIs z (zOb TI TO f0))
  T : ∃ v y, H TO = some (xIs TO (pOb v y)) ∧ P v
  i : H i1 = some (xIs i1 (rOb x left))
theorem ZAt.keep {z TI TO i1 : Addr} {f0 : Value} {P : Value → Prop} {x left : Int} {H H' : Hp} (h : ZAt z TI TO i1 f0 P x left H) (k : ∀ b o, b = z ∨ b = TO ∨ b = i1 → H b = some o → H' b = some o) : ZAt z TI TO i1 f0 P x left H' := by
  obtain ⟨v, y, e, p⟩ := h.T
  exact ⟨k _ _ (.inl rfl) h.z, ⟨v, y, k _ _ (.inr (.inl rfl)) e, p⟩, k _ _ (.inr (.inr rfl)) h.i⟩
/-! ### the mirror -/
section
variable {X : Cx} {cl : Cl} {wx : WX} {it eN : Expr} {elts : List Expr} {kd : Nat} {body : List Stmt} {pos tpos p1 p2 q1 q2 : Pos} {us ts : List Nat} {fN : S → M (D × S)} {fa : S → M (List D × S)} {B : GM} {T : D → S → M S} {F : S → M Out} {g : GD} {ar k : Nat}
end
end Dt
namespace Dt
open PySem PySem.Spec PyProof.Rows L2 GenW
/-! ### generators made with names -/
def gArgsK (n m : Nat) (gD : List D → List D → List D) (fk : S → M (List D × S)) : S → M (List D × S) := fun s => bd (fk s) fun q => if q.1.length = m ∧ (gD [] q.1).length = n then ok (gD [] q.1, q.2) else none
section
variable {X : Cx} {cl : Cl} {wx : WX} {k n m : Nat} {f : Addr} {fd : FuncData} {ps ks : List Str} {g : GD} {x : Str} {p pos : Pos} {e : Expr} {es : List Expr} {kws : List Keyword} {fr fk : S → M (List D × S)}
  {gv : List Value → List Value → List Value} {gV : List V → List V → List V} {gD : List D → List D → List D}
end
/-! ### x, y = (e, f); x, y, z = (e, f, g) where a name is no plain local: by a tuple -/
section
variable {X : Cx} {K : PySem.W.Frag} {cl : Cl} {wx : WX} {pos : Pos} {a b c : Expr} {fr : S → M (List Sl × S)}
end
end Dt
namespace L2
open PyProof.Rows PySem PySem.Spec
section
variable {P : Program} {w : World} {A : Around} {E : Value → Shared → Prop} {s : Shared} {a : Addr}
end
end L2
namespace Dt
open PySem PySem.Spec PyProof.Rows L2 GenW
section
variable {X : Cx}
end
section
variable {X : Cx} {cl : Cl} {wx : WX} {pos pos' p p' : Pos} {e : Expr} {fr : S → M (List D × S)}
end
end Dt
/-! L9n: == and != of tuples whose items are instances with an own __eq__ (all pairs equal), of a tuple and the empty one, and one rule or another -/
namespace Tn
open PySem PySem.SeqAt
open AutoSeq1
open MeetsSeq MeetsSeq2
open MeetsSeq3
open SeqRoads2
section
variable {prog
      : Program} {w : World} {A : Around}
end
end Tn
namespace Dt
open L2 PySem PySem.Spec PyProof.Rows
section
variable {X : Cx} {CX : CXT} {k : Nat} {C f : Addr} {fd : FuncData} {ps names : List Str} {sp : Sp} {E : XK} {cl : Cl} {c : Str} {g : FnD}
/-! ### the mirrors -/
end
end Dt
/-! L9o: list(d), sorted(d), sorted(xs) of pairs, dict(xs) of pairs; o.m(..) where m changes o -/
namespace Dt
open PySem PySem.Spec PyProof PyProof.Rows L2
/-! ### list(d) -/
/-! ### sorted(d), the keys are ints -/
/-! ### sorted(xs), xs a list of pairs of ints -/
/-! ### dict(xs), xs a list of pairs with different keys -/
/-! ### o.m(..) that changes o, an own object -/
section
variable {X : Cx} {k n : Nat} {f C : Addr} {m c : Str} {pos apos py : Pos} {fd : FuncData} {ps : List Str} {e : Expr} {es : List Expr} {cl : Cl} {wx : WX} {fr : S → M (List D × S)} {names : List Str} {gI : D → List D → M (D × D)}
end
end Dt
/-! L9p: a class with one list of its own: def __init__(self, *v): self.f = []; self.m(*v), and def m(self, *v): ..; self.f.extend(v) -/
namespace Tx
open PySem PySem.SeqAt
open AutoSeq1
open MeetsSeq MeetsSeq2
open MeetsSeq3
open SeqRoads2
end Tx
namespace Dt
open L2 PySem PySem.Spec PyProof.Rows
/-! ### list.extend(a tuple) -/
section
variable {X : Cx}
end
/-! ### def m(self, *v): s1; s2; self.f.extend(v) -/
/-! ### o.m( *e) of a def m(self, *v) -/
/-! ### def __init__(self, *v): self.f = []; self.m( *v) -/
end Dt
/-! L9q: C(e, ..) and C() of a class whose __init__ takes *v; a display with a star -/
namespace Dt
open L2 PySem PySem.Spec PyProof.Rows
section
variable {X : Cx} {k : Nat} {f C : Addr} {sp : Sp} {x c : Str} {p pos : Pos} {e : Expr} {es : List Expr} {t : TA} {cl : Cl} {wx : WX} {fr : S → M (List D × S)} {gI : D → List D → M (D × D)} {names : List Str}
end
/-! ### *e in an argument list or a display -/
section
variable {X : Cx} {k : Nat} {f C : Addr} {sp : Sp} {x c : Str} {p pos sp_ : Pos} {e : Expr} {es : List Expr} {t : TA} {cl : Cl} {wx : WX} {fe : S → M (D × S)} {fr : S → M (List D × S)} {gI : D → List D → M (D × D)} {g : FnD} {names : List Str}
end
/-! ### a method as a bound one; the mirror of m, whose last statement is self.f.extend(v) -/
def bmB (K : PySem.W.Frag) (C m : Str) : Bool := He.eqO (PySem.W.specialIn K (.ref (He.ma K (He.ga K C) m)) "__get__") (some (some (.builtin "function.__get__"))) && (decide (PySem.W.takesIn K (.ref (He.ma K (He.ga K C) m)) = some false) && (!(PySem.W.copiedNames.contains m) && PySem.W.fnIn K (He.ma K (He.ga K C) m)))
end Dt
/-! L9r: a tuple times an int; len(o) of an instance with an own __len__ -/
namespace Dt
open L2 PySem PySem.Spec PyProof.Rows
instance : DecidablePred fun (xs : List D) => xs ≠ [] := fun xs => by cases xs <;> infer_instance
section
variable {X : Cx} {cl : Cl}
end
/-! ### len(o), o with an own __len__ -/
section
variable {prog : Program} {w : World} {A : Around} {E : Value → Shared → Prop} {s : Shared} {K : PySem.W.Frag} {x C f : Addr} {ox : Obj} {od : Option Obj}
end
section
variable {X : Cx} {CX : CXT} {k : Nat} {C f : Addr} {fd : FuncData} {ps names : List Str} {sp : Sp} {E : XK} {cl : Cl} {c : Str} {g : FnD}
end
end Dt
/-! L9s: list(zip(a, b)) of lists and tuples in any mix -/
namespace Dt
open L2 PySem PySem.Spec PyProof.Rows
section
variable {prog : Program} {w : World} {A : Around} {E : Value → Shared → Prop} {s : Shared} {z TI TO i1 i2 T : Addr} {fp1 fp2 : List Addr} {n1 n2 i : Nat} {P1 P2 : Nat → Value → Prop} {St1 St2 : Nat → Heap → Prop} {f : Bool} {oT : Obj}
end
/-- the state of the drawing -/
structure Dg (P : Program) (w : World) (h0 : Heap) (H1 : Hp) (z TI TO i1 i2 : Addr) (St1 St2 : Nat → Heap → Prop) (S : Addr) (xs ys : List V) (k : Nat) (h : Heap) (H : Hp) (acc : Array Value) (out : List V) : Prop where
  keep : ∀ b o, h0.get? b = some o → h.get? b = some o
  sz : h0.objs.size ≤ h.objs.size
  hok : HOk P w H h
  same : ∀ b o, H1 b = some o → H b = some o
  new : ∀ b, H b ≠ none → H1 b = none → h0.objs.size ≤ b
  ti : IsPair h TI (.ref i1) (.ref i2)
  tot : ∃ o, h.get? TO = some o
  it1 : St1 k h
  it2 : St2 k h
  zs : (IsZip h z TI TO .none ∧ ∃ a b, IsPair h TO a b) ∨ ∃ T f oT, IsZipHeld h z TI TO T f ∧ h.get? T = some oT ∧ T ≠ z ∧ T ≠ i1 ∧ T ≠ i2 ∧ T ≠ S
  lst : ∃ c, h.get? S = some (lstObj acc c)
  rel : Vals out acc.toList
  prs : PairsAt H1 H xs ys k out
  hz : H z = none
  hTO : H TO = none
  h1 : H i1 = none
  h2 : H i2 = none
  hS : H S = none
section
variable {P : Program} {w : World} {h0 : Heap} {H1 : Hp} {z TI TO i1 i2 S : Addr} {fp1 fp2 : List Addr} {St1 St2 : Nat → Heap → Prop} {P1 P2 : Nat → Value → Prop} {n1 n2 : Nat} {xs ys : List V} {k : Nat} {h h' : Heap} {H : Hp} {acc : Array Value} {out : List V}
/-- one pair more -/
theorem Dg.more {A : Around} (D1 : Draws P w A i1 fp1 n1 P1 St1) (D2 : Draws P w A i2 fp2 n2 P2 St2) (sf1 : S ∉ fp1) (sf2 : S ∉ fp2) (D : Dg P w h0 H1 z TI TO i1 i2 St1 St2 S xs ys k h H acc out) (Z : ZipSep2 z TI TO i1 i2 fp1 fp2) {x y : V} {u v : Value} (ru : RelV x u) (rv : RelV y v) (ex : xs[k]? = some x) (ey : ys[k]? = some y)
    (b0 : ∀ b, b = z ∨ b = TO ∨ b = i1 ∨ b = i2 ∨ b = S → h0.objs.size ≤ b) (nTI : TI ≠ S) (nTO : TO ≠ S) (nz : z ≠ S) (n1 : i1 ≠ S) (n2 : i2 ≠ S)
    (hk : ∀ c o, c ≠ z → c ≠ TO → c ≠ i1 → c ≠ i2 → h.get? c = some o → h'.get? c = some o) (hsz : h'.objs.size = h.objs.size + 1) (a1 : IsZipHeld h' z TI TO h.objs.size false ∨ IsZipHeld h' z TI TO h.objs.size true ∨ ∃ T oT, IsZipHeld h' z TI TO T true ∧ h'.get? T = some oT ∧ T ≠ z ∧ T ≠ i1 ∧ T ≠ i2 ∧ T ≠ S)
    (a3 : St1 (k + 1) h') (a4 : St2 (k + 1) h') (a5 : IsPair h' h.objs.size u v) (a6 : ∃ o, h'.get? TO = some o) :
    Dg P w h0 H1 z TI TO i1 i2 St1 St2 S xs ys (k + 1) (h'.update S (Obj.mapSeq (·.push (.ref h.objs.size)))) (upd H h.objs.size (.tup [x, y])) (acc.push (.ref h.objs.size)) (out ++ [.ref h.objs.size]) := by
  obtain ⟨c, hl⟩ := D.lst
  have lt : ∀ {c o}, h.get? c = some o → h.objs.size ≠ c := fun e => Nat.ne_of_gt (Heap.lt_size e)
  have hT : H h.objs.size = none := D.hok.fresh (Nat.le_refl _)
  have TS : h.objs.size ≠ S := lt hl
  have Tz : h.objs.size ≠ z := by
    rcases D.zs with ⟨e, _⟩ | ⟨_, _, _, e, _⟩ <;> exact lt e
  have T1 : h.objs.size ≠ i1 := by
    obtain ⟨o, e⟩ := D1.live _ _ D.it1
    exact lt e
  have T2 : h.objs.size ≠ i2 := by
    obtain ⟨o, e⟩ := D2.live _ _ D.it2
    exact lt e
  have up : ∀ b o, b ≠ S → h'.get? b = some o → (h'.update S (Obj.mapSeq (·.push (.ref h.objs.size)))).get? b = some o := fun b o n e => (Heap.get?_update_other _ _ (Ne.symm n)).trans e
  have big : ∀ {b o}, h0.get? b = some o → b ≠ z ∧ b ≠ TO ∧ b ≠ i1 ∧ b ≠ i2 ∧ b ≠ S := fun {b o} e => by
    have l := Heap.lt_size e
    refine ⟨fun q => ?_, fun q => ?_, fun q => ?_, fun q => ?_, fun q => ?_⟩
    · exact absurd (b0 b (.inl q)) (Nat.not_le.mpr l)
    · exact absurd (b0 b (.inr (.inl q))) (Nat.not_le.mpr l)
    · exact absurd (b0 b (.inr (.inr (.inl q)))) (Nat.not_le.mpr l)
    · exact absurd (b0 b (.inr (.inr (.inr (.inl q))))) (Nat.not_le.mpr l)
    · exact absurd (b0 b (.inr (.inr (.inr (.inr q))))) (Nat.not_le.mpr l)
  have trk : ∀ {b : Addr}, H b ≠ none → b ≠ z ∧ b ≠ TO ∧ b ≠ i1 ∧ b ≠ i2 ∧ b ≠ S := fun {b} n =>
    ⟨fun q => n (q ▸ D.hz), fun q => n (q ▸ D.hTO), fun q => n (q ▸ D.h1), fun q => n (q ▸ D.h2), fun q => n (q ▸ D.hS)⟩
  have stay : ∀ b o, H b ≠ none → h.get? b = some o → (h'.update S (Obj.mapSeq (·.push (.ref h.objs.size)))).get? b = some o := fun b o n e =>
    let ⟨q1, q2, q3, q4, q5⟩ := trk n
    up b o q5 (hk b o q1 q2 q3 q4 e)
  have h0le : h0.objs.size ≤ h.objs.size := D.sz
  refine ⟨fun b o e => ?_, ?_, fun b o e => ?_, fun b o e => ?_, fun b n e => ?_, ?_, ?_, ?_, ?_, ?_, ?_, ?_, ?_, ?_, ?_, ?_, ?_, ?_⟩
  · obtain ⟨q1, q2, q3, q4, q5⟩ := big e
    exact up b o q5 (hk b o q1 q2 q3 q4 (D.keep b o e))
  · rw [Heap.size_update, hsz]
    omega
  · by_cases q : b = h.objs.size
    · subst q
      rw [upd_same] at e
      cases e
      exact ⟨two_le, [u, v], .cons ru (.cons rv .nil), _, up _ _ TS a5, rfl, 0, rfl⟩
    · rw [upd_ne q] at e
      have nb : H b ≠ none := by rw [e]; simp
      refine (D.hok b o e).stay (fun b' u' hb e' => stay b' u' ?_ e') (fun b' e' => by rw [upd_ne (ne_of_none e' hT)]; exact e') fun b' xs' e' => by rw [upd_ne (ne_of_none e' hT)]; exact e'
      rcases hb with hb | hb
      · rw [hb]; exact nb
      · rw [hb]; simp
  · have := D.same b o e
    rw [upd_ne (ne_of_none this hT)]
    exact this
  · by_cases q : b = h.objs.size
    · rw [q]; exact h0le
    · rw [upd_ne q] at n
      exact D.new b n e
  · exact up _ _ nTI (hk _ _ Z.TIz Z.TITO Z.TIi1 Z.TIi2 D.ti)
  · obtain ⟨o, e⟩ := a6
    exact ⟨o, up _ _ nTO e⟩
  · exact D1.frame _ _ _ a3 fun b hb o e => up _ _ (fun q => sf1 (q ▸ hb)) e
  · exact D2.frame _ _ _ a4 fun b hb o e => up _ _ (fun q => sf2 (q ▸ hb)) e
  · rcases a1 with a1 | a1 | ⟨T, oT, a1, e, q1, q2, q3, q4⟩
    · exact .inr ⟨_, _, _, up _ _ nz a1, up _ _ TS a5, Tz, T1, T2, TS⟩
    · exact .inr ⟨_, _, _, up _ _ nz a1, up _ _ TS a5, Tz, T1, T2, TS⟩
    · exact .inr ⟨_, _, _, up _ _ nz a1, up _ _ q4 e, q1, q2, q3, q4⟩
  · have e := hk S _ (Ne.symm nz) (Ne.symm nTO) (Ne.symm n1) (Ne.symm n2) hl
    exact ⟨_, Heap.get?_update_self (Obj.mapSeq (·.push (.ref h.objs.size))) e rfl⟩
  · rw [Array.toList_push]
    exact D.rel.append (.cons rfl .nil)
  · obtain ⟨q1, q2⟩ := D.prs
    refine ⟨by rw [List.length_append, q1]; rfl, fun j hj => ?_⟩
    by_cases e : j < k
    · obtain ⟨T, x', y', p1, p2, p3, p4, p5⟩ := q2 j e
      refine ⟨T, x', y', by rw [List.getElem?_append_left (by omega)]; exact p1, p2, p3, by rw [upd_ne (ne_of_none p4 hT)]; exact p4, p5⟩
    · have ej : j = k := by omega
      subst ej
      refine ⟨h.objs.size, x, y, by rw [List.getElem?_append_right (by omega), q1, Nat.sub_self]; rfl, ex, ey, upd_same, ?_⟩
      cases q : H1 h.objs.size with
      | none => rfl
      | some o =>
        have := D.same _ _ q
        rw [hT] at this
        cases this
  · rw [upd_ne (Ne.symm Tz)]; exact D.hz
  · obtain ⟨o, e⟩ := D.tot
    rw [upd_ne (Ne.symm (lt e))]
    exact D.hTO
  · rw [upd_ne (Ne.symm T1)]; exact D.h1
  · rw [upd_ne (Ne.symm T2)]; exact D.h2
  · rw [upd_ne (Ne.symm TS)]; exact D.hS
theorem Dg.last (D : Dg P w h0 H1 z TI TO i1 i2 St1 St2 S xs ys (min xs.length ys.length) h H acc out) (b0 : ∀ b, b = z ∨ b = TO ∨ b = i1 ∨ b = i2 → h0.objs.size ≤ b) (nTO : TO ≠ S) (nz : z ≠ S) (n1 : i1 ≠ S) (n2 : i2 ≠ S)
    (hk : ∀ c o, c ≠ z → c ≠ TO → c ≠ i1 → c ≠ i2 → h.get? c = some o → h'.get? c = some o) : Fz P w h0 H1 S xs ys h' H acc out := by
  obtain ⟨c, hl⟩ := D.lst
  have stay : ∀ b o, H b ≠ none → h.get? b = some o → h'.get? b = some o := fun b o n e => hk b o (fun q => n (q ▸ D.hz)) (fun q => n (q ▸ D.hTO)) (fun q => n (q ▸ D.h1)) (fun q => n (q ▸ D.h2)) e
  refine ⟨fun b o e => ?_, fun b o e => ?_, D.same, D.new, ⟨c, hk S _ (Ne.symm nz) (Ne.symm nTO) (Ne.symm n1) (Ne.symm n2) hl⟩, D.rel, D.prs, D.hS⟩
  · have l := Heap.lt_size e
    have far : ∀ {d}, h0.objs.size ≤ d → b ≠ d := fun q z => absurd (z ▸ q) (Nat.not_le.mpr l)
    exact hk b o (far (b0 z (.inl rfl))) (far (b0 TO (.inr (.inl rfl)))) (far (b0 i1 (.inr (.inr (.inl rfl))))) (far (b0 i2 (.inr (.inr (.inr rfl))))) (D.keep b o e)
  · have nb : H b ≠ none := by rw [e]; simp
    refine (D.hok b o e).stay (fun b' u' hb e' => stay b' u' ?_ e') (fun _ q => q) fun _ _ q => q
    rcases hb with hb | hb
    · rw [hb]; exact nb
    · rw [hb]; simp
end
theorem off {n a b : Nat} (h : a ≠ b) : n + a ≠ n + b := fun q => h (Nat.add_left_cancel q)
section
variable {X : Cx} {ta : TA} {a b : Expr} {p1 p2 pz pos : Pos} {k : Nat}
end
section
variable {X : Cx} {cl : Cl} {wx : WX} {a b : Expr} {p1 p2 pz pos : Pos} {k : Nat} {fr : S → M (List D × S)}
end
end Dt
/-! L9t: a + b of lists, as a new list of one's own -/
namespace Dt
open L2 PySem PySem.Spec PyProof.Rows
section
variable {X : Cx} {K : PySem.W.Frag} {cl : Cl} {wx : WX} {pos : Pos} {a b : Expr} {fa fb : S → M (D × S)}
end
end Dt
/-! L10a: parts of trees, found and changed -/
namespace Dt
open L2 PySem PySem.Spec PyProof.Rows
/-- where a part stands -/
inductive Pth where
  | root
  | fld (c : Str) (j : Nat) (f : Str)
  | key (k : Key)
def kAt (k : Key) : List Key → Option Nat
  | [] => none
  | k0 :: ks => if k0 = k then some 0 else (kAt k ks).map (· + 1)
def boxD : Option D → Option D
  | some (.box d) => some d
  | _ => none
def subP : Pth → D → Option D
  | .root, d => some d
  | .fld c j _, .obj c' ds => if c' = c then boxD ds[j]? else none
  | .key k, .dic ks ds => (kAt k ks).bind fun j => boxD ds[j]?
  | _, _ => none
def putP : Pth → D → D → D
  | .root, _, e => e
  | .fld _ j _, .obj c ds, e => .obj c (ds.set j (.box e))
  | .key k, .dic ks ds, e => .dic ks (ds.set ((kAt k ks).getD 0) (.box e))
  | _, d, _ => d
section
variable {K : PySem.W.Frag} {cl : Cl} {g g' H H' : Hp} {w : Wf} {L : List Addr} {sd : S} {σ : L2.St}
theorem boxD_some {o : Option D} {d : D} (h : boxD o = some d) : o = some (.box d) := by
  unfold boxD at h
  split at h
  · cases h; rfl
  · cases h
theorem trSplit : ∀ {fp : List Addr} {vs : List V} {ds : List D} (j : Nat) {x : D}, TrA K cl g H fp vs ds → ds[j]? = some x → ∃ v f1 fj f2, vs[j]? = some v ∧ fp = f1 ++ (fj ++ f2) ∧ TrC K cl g H fj v x ∧
    ∀ (g' H' : Hp) (fj' : List Addr) (v' : V) (x' : D), (∀ v d, Rp K cl g v d → Rp K cl g' v d) → (∀ y ∈ f1, H' y = H y) → (∀ y ∈ f2, H' y = H y) → TrC K cl g' H' fj' v' x' → TrA K cl g' H' (f1 ++ (fj' ++ f2)) (vs.set j v') (ds.set j x')
  | _, _, _, _, _, .nil, e => by simp at e
  | _, _, _, 0, x, .cons (f1 := f1) (f2 := f2) (v := v) a r, e => by
    simp at e
    subst e
    exact ⟨v, [], f1, f2, rfl, rfl, a, fun g' H' fj' v' x' s _ e2 c => TrA.cons (f1 := fj') (f2 := f2) c (r.map s e2)⟩
  | _, _, _, j + 1, x, .cons (f1 := f1) (f2 := f2) (v := v) a r, e => by
    obtain ⟨u, h1, hj, h2, q1, q2, q3, q4⟩ := trSplit j r (by simpa using e)
    refine ⟨u, f1 ++ h1, hj, h2, by simpa using q1, by rw [q2, List.append_assoc], q3, fun g' H' fj' v' x' s e1 e2 c => ?_⟩
    have := TrA.cons (a.map s fun y hy => e1 y (List.mem_append_left _ hy)) (q4 g' H' fj' v' x' s (fun y hy => e1 y (List.mem_append_right _ hy)) e2 c)
    rw [List.append_assoc]
    exact this
theorem TrA.len : ∀ {fp : List Addr} {vs : List V} {ds : List D}, TrA K cl g H fp vs ds → vs.length = ds.length
  | _, _, _, .nil => rfl
  | _, _, _, .cons _ r => congrArg (· + 1) r.len
theorem trOfRp : ∀ {ws : List V} {es : List D}, RpA K cl g ws es → TrA K cl g H [] ws es
  | _, _, .nil => .nil
  | _, _, .cons a r => .cons (f1 := []) (.sh a) (trOfRp r)
theorem set_same {α : Type} : ∀ {xs : List α} {j : Nat} {v : α}, xs[j]? = some v → xs.set j v = xs
  | [], _, _, _ => rfl
  | _ :: _, 0, _, e => by simp at e; simp [e]
  | _ :: xs, j + 1, _, e => by simp at e; simp [set_same e]
theorem kAt_val : ∀ {kvs : List (Key × V)} {k : Key} {j : Nat}, kAt k (kvs.map (·.1)) = some j → ∃ v, kvs[j]? = some (k, v) ∧ valV kvs k = some v
  | [], _, _, e => by cases e
  | (k0, v) :: r, k, j, e => by
    rw [List.map_cons, kAt] at e
    by_cases c : k0 = k
    · rw [if_pos c] at e
      cases e
      refine ⟨v, by rw [← c]; rfl, ?_⟩
      unfold valV
      simp [List.find?, c]
    · rw [if_neg c] at e
      cases q : kAt k (r.map (·.1)) with
      | none => (rw [q] at e; cases e)
      | some j' =>
        rw [q] at e
        cases e
        obtain ⟨u, h1, h2⟩ := kAt_val q
        refine ⟨u, h1, ?_⟩
        unfold valV at h2 ⊢
        simp [List.find?, c]
        simpa using h2
/-- a part: its address, its data, its addresses; how the whole is put together again -/
structure AtP (K : PySem.W.Frag) (cl : Cl) (g H : Hp) (fp : List Addr) (a : Addr) (d : D) (p : Pth) (b : Addr) (e : D) (fj : List Addr) : Prop where
  tr : Tr K cl g H fj (.ref b) e
  sub : ∀ x ∈ fj, x ∈ fp
  nd : fj.Nodup
  reb : ∀ (g' H' : Hp) (fj' : List Addr) (e' : D), (∀ v d, Rp K cl g v d → Rp K cl g' v d) → (∀ x ∈ fp, x ∉ fj → H' x = H x) → Tr K cl g' H' fj' (.ref b) e' → fj'.Nodup → (∀ x ∈ fj', x ∈ fj ∨ x ∉ fp) →
    ∃ fp', Tr K cl g' H' fp' (.ref a) (putP p d e') ∧ fp'.Nodup ∧ ∀ x ∈ fp', x ∈ fp ∨ x ∈ fj'
  see : match p with
    | .root => b = a
    | .fld c j f => ∃ C dx fvs names, cl c = some (C, names) ∧ H a = some (.ins C dx fvs) ∧ fvs[j]?.map (·.2) = some (.ref b) ∧ ∃ n, fvs.map (·.1) = names.take n
    | .key k => ∃ kvs, H a = some (.dK kvs) ∧ valV kvs k = some (.ref b)
theorem nd_mid {f1 fj f2 fj' : List Addr} {a : Addr} (h : (a :: (f1 ++ (fj ++ f2))).Nodup) (n : fj'.Nodup) (s : ∀ x ∈ fj', x ∈ fj ∨ x ∉ a :: (f1 ++ (fj ++ f2))) : (a :: (f1 ++ (fj' ++ f2))).Nodup := by
  simp only [List.nodup_cons, List.nodup_append, List.mem_append, List.mem_cons, not_or] at h s ⊢
  obtain ⟨⟨h1, h2, h3⟩, n1, ⟨n2, n3, n4⟩, n5⟩ := h
  refine ⟨⟨h1, fun z => ?_, h3⟩, n1, ⟨n, n3, fun x hx y hy e => ?_⟩, fun x hx y hy e => ?_⟩
  · rcases s a z with q | q
    · exact h2 q
    · exact q.1 rfl
  · subst e
    rcases s x hx with q | q
    · exact n4 x q x hy rfl
    · exact q.2.2.2 hy
  · subst e
    rcases hy with hy | hy
    · rcases s x hy with q | q
      · exact n5 x hx x (.inl q) rfl
      · exact q.2.1 hx
    · exact n5 x hx x (.inr hy) rfl
theorem AtP.of {fp : List Addr} {a : Addr} {d : D} {p : Pth} {e : D} (T : Tr K cl g H fp (.ref a) d) (nd : fp.Nodup) (h : subP p d = some e) : ∃ b fj, AtP K cl g H fp a d p b e fj := by
  cases p with
  | root =>
    cases h
    exact ⟨a, fp, T, fun x hx => hx, nd, fun g' H' fj' e' s _ t n _ => ⟨fj', t, n, fun x hx => .inr hx⟩, rfl⟩
  | fld c j f =>
    cases T with
    | lst => cases h
    | dic => cases h
    | @obj _ C dx fq fvs c' names ds k0 h0 n0 r0 =>
    replace h : (if c' = c then boxD ds[j]? else none) = some e := h
    split at h
    rotate_left
    · cases h
    · next ec =>
      subst ec
      obtain ⟨v, f1, fj, f2, q1, q2, q3, q4⟩ := trSplit j r0 (boxD_some h)
      subst q2
      cases q3 with
      | sh r => exact (no_box r).elim
      | box t =>
        obtain ⟨b, rfl, hb⟩ := t.root
        have ndj : fj.Nodup := ((List.nodup_append.mp ((List.nodup_append.mp (List.nodup_cons.mp nd).2).2.1)).1)
        refine ⟨b, fj, t, fun x hx => List.mem_cons_of_mem _ (List.mem_append_right _ (List.mem_append_left _ hx)), ndj, fun g' H' fj' e' s ek t' n' su => ?_, ?_⟩
        · have d1 : ∀ y ∈ f1, y ∉ fj := fun y hy z => (List.nodup_append.mp (List.nodup_cons.mp nd).2).2.2 y hy y (List.mem_append_left _ z) rfl
          have d2 : ∀ y ∈ f2, y ∉ fj := fun y hy z => (List.nodup_append.mp ((List.nodup_append.mp (List.nodup_cons.mp nd).2).2.1)).2.2 y z y hy rfl
          have d0 : a ∉ fj := fun z => (List.nodup_cons.mp nd).1 (List.mem_append_right _ (List.mem_append_left _ z))
          have r1 := q4 g' H' fj' (.ref b) (.box e') s (fun y hy => ek y (List.mem_cons_of_mem _ (List.mem_append_left _ hy)) (d1 y hy)) (fun y hy => ek y (List.mem_cons_of_mem _ (List.mem_append_right _ (List.mem_append_right _ hy))) (d2 y hy)) (.box t')
          rw [set_same q1] at r1
          refine ⟨a :: (f1 ++ (fj' ++ f2)), .obj k0 ((ek a List.mem_cons_self d0).trans h0) (by rw [List.length_set]; exact n0) r1, nd_mid nd n' su, fun x hx => ?_⟩
          (rcases List.mem_cons.mp hx with rfl | hx)
          · exact .inl List.mem_cons_self
          · (rcases List.mem_append.mp hx with hx | hx)
            · exact .inl (List.mem_cons_of_mem _ (List.mem_append_left _ hx))
            · (rcases List.mem_append.mp hx with hx | hx)
              · exact .inr hx
              · exact .inl (List.mem_cons_of_mem _ (List.mem_append_right _ (List.mem_append_right _ hx)))
        · exact ⟨_, _, fvs, _, k0, h0, by rw [← List.getElem?_map]; exact q1, _, n0⟩
  | key k =>
    cases T with
    | lst => cases h
    | obj => cases h
    | @dic _ fq kvs ks ds h0 n0 r0 =>
    have h : ((kAt k ks).bind fun j => boxD ds[j]?) = some e := h
    cases hk : kAt k ks with
    | none => (rw [hk] at h; cases h)
    | some j =>
      rw [hk] at h
      have h : boxD ds[j]? = some e := h
      obtain ⟨v, f1, fj, f2, q1, q2, q3, q4⟩ := trSplit j r0 (boxD_some h)
      subst q2
      cases q3 with
      | sh r => exact (no_box r).elim
      | box t =>
        obtain ⟨b, rfl, hb⟩ := t.root
        have ndj : fj.Nodup := ((List.nodup_append.mp ((List.nodup_append.mp (List.nodup_cons.mp nd).2).2.1)).1)
        refine ⟨b, fj, t, fun x hx => List.mem_cons_of_mem _ (List.mem_append_right _ (List.mem_append_left _ hx)), ndj, fun g' H' fj' e' s ek t' n' su => ?_, ?_⟩
        · have d1 : ∀ y ∈ f1, y ∉ fj := fun y hy z => (List.nodup_append.mp (List.nodup_cons.mp nd).2).2.2 y hy y (List.mem_append_left _ z) rfl
          have d2 : ∀ y ∈ f2, y ∉ fj := fun y hy z => (List.nodup_append.mp ((List.nodup_append.mp (List.nodup_cons.mp nd).2).2.1)).2.2 y z y hy rfl
          have d0 : a ∉ fj := fun z => (List.nodup_cons.mp nd).1 (List.mem_append_right _ (List.mem_append_left _ z))
          have r1 := q4 g' H' fj' (.ref b) (.box e') s (fun y hy => ek y (List.mem_cons_of_mem _ (List.mem_append_left _ hy)) (d1 y hy)) (fun y hy => ek y (List.mem_cons_of_mem _ (List.mem_append_right _ (List.mem_append_right _ hy))) (d2 y hy)) (.box t')
          rw [set_same q1] at r1
          refine ⟨a :: (f1 ++ (fj' ++ f2)), ?_, nd_mid nd n' su, fun x hx => ?_⟩
          · show Tr K cl g' H' _ _ (.dic ks (ds.set ((kAt k ks).getD 0) (.box e')))
            rw [hk]
            exact .dic ((ek a List.mem_cons_self d0).trans h0) n0 r1
          · rcases List.mem_cons.mp hx with rfl | hx
            · exact .inl List.mem_cons_self
            · (rcases List.mem_append.mp hx with hx | hx)
              · exact .inl (List.mem_cons_of_mem _ (List.mem_append_left _ hx))
              · (rcases List.mem_append.mp hx with hx | hx)
                · exact .inr hx
                · exact .inl (List.mem_cons_of_mem _ (List.mem_append_right _ (List.mem_append_right _ hx)))
        · rw [← n0] at hk
          obtain ⟨u, e1, e2⟩ := kAt_val hk
          refine ⟨kvs, h0, ?_⟩
          rw [e2]
          rw [List.getElem?_map, e1] at q1
          exact congrArg some (Option.some.inj q1)
/-- what is known of a tree slot -/
theorem Wl.treAt (W : Wl K cl w L sd σ H) {i : Nat} {b : Nat} {d : D} (e : sd[i]? = some (.tre b d)) : ∃ a fp, σ[i]? = some (some (.ref a)) ∧ (b ≠ 0 → a = adr w b) ∧ Tr K cl (hide (L ++ w.O0) H) H fp (.ref a) d ∧ fp.Nodup ∧ (∀ x ∈ fp, x ∈ L ∨ x ∈ w.I) ∧ (Inp b → ∀ x ∈ fp, x ∈ w.I) ∧ (b = 0 → ∀ x ∈ fp, x ∉ w.I) := by
  obtain ⟨F, h1, _⟩ := W.st.tr.ex
  obtain ⟨a, k1, k2, k3, k4, k5, k6⟩ := h1 i b d e
  exact ⟨a, F i, k1, k2, k3, k4, k5, k6⟩
end
end Dt
/-! L10b: statements that change a tree -/
namespace Dt
open L2 PySem PySem.Spec PyProof.Rows
/-! ### receivers -/
section
variable {X : Cx} {cl : Cl} {i j : Nat} {x f c : Str} {p0 apos : Pos} {C : Addr} {names : List Str} {k : Key} {ke : Expr}
end
section
variable {K : PySem.W.Frag} {cl : Cl} {w : Wf} {L : List Addr} {sd : S} {σ : L2.St} {H : Hp} {i : Nat} {b : Nat} {d e : D} {p : Pth} {a q : Addr} {fp fj : List Addr} {g : Hp}
/-- what is known of a part -/
theorem Wl.part (W : Wl K cl w L sd σ H) (e1 : sd[i]? = some (.tre b d)) (e2 : subP p d = some e) : ∃ a fp q fj, σ[i]? = some (some (.ref a)) ∧ Tr K cl (hide (L ++ w.O0) H) H fp (.ref a) d ∧ fp.Nodup ∧ (∀ x ∈ fp, x ∈ L ∨ x ∈ w.I) ∧ AtP K cl (hide (L ++ w.O0) H) H fp a d p q e fj := by
  obtain ⟨a, fp, h1, _, h3, h4, h5, _⟩ := W.treAt e1
  obtain ⟨q, fj, A⟩ := AtP.of h3 h4 e2
  exact ⟨a, fp, q, fj, h1, h3, h4, h5, A⟩
end
/-! ### arguments that leave the state alone -/
/-- only the values are seen -/
def valS (s : S) : S := s.map fun x => match x with
  | .val d => .val d
  | _ => .un
def pu (f : S → M (D × S)) : S → M D := fun s => bd (nx (f (valS s))) fun p => ok p.1
section
variable {X : Cx} {K : PySem.W.Frag} {cl : Cl} {w : Wf} {L : List Addr} {sd : S} {σ : L2.St} {H : Hp} {e : Expr} {f : S → M (D × S)}
end
mutual
def flat : D → Bool
  | .non => true
  | .bl _ => true
  | .int _ => true
  | .str _ => true
  | .tup ds => flats ds
  | _ => false
def flats : List D → Bool
  | [] => true
  | d :: ds => flat d && flats ds
end
section
variable {X : Cx} {K : PySem.W.Frag} {cl : Cl} {w : Wf} {L : List Addr} {sd : S} {σ : L2.St} {H H1 : Hp} {e : Expr} {f : S → M (D × S)}
end
end Dt
/-! L10c: append, extend, pop, puts on parts of trees -/
namespace Dt
open L2 PySem PySem.Spec PyProof.Rows
def treD : Option Sl → Option (Nat × D)
  | some (.tre b d) => some (b, d)
  | _ => none
section
variable {K : PySem.W.Frag} {cl : Cl} {w : Wf} {L : List Addr} {sd : S} {σ : L2.St} {g g' H H' : Hp} {i : Nat} {b : Nat} {d e : D} {p : Pth} {a q : Addr} {fp fj : List Addr}
theorem AtP.map (A : AtP K cl g H fp a d p q e fj) (ha : a ∈ fp) (s : ∀ v d, Rp K cl g v d → Rp K cl g' v d) (ek : ∀ x ∈ fp, H' x = H x) : AtP K cl g' H' fp a d p q e fj := by
  refine ⟨A.tr.map s fun x hx => ek x (A.sub x hx), A.sub, A.nd, fun g2 H2 fj' e' s2 ek2 t n su => A.reb g2 H2 fj' e' (fun v d r => s2 v d (s v d r)) (fun x hx nx => (ek2 x hx nx).trans (ek x hx)) t n su, ?_⟩
  have see := A.see
  cases p with
  | root => exact see
  | fld c j f =>
    obtain ⟨C, dx, fvs, names, k0, h0, r⟩ := see
    exact ⟨C, dx, fvs, names, k0, (ek a ha).trans h0, r⟩
  | key k =>
    obtain ⟨kvs, h0, r⟩ := see
    exact ⟨kvs, (ek a ha).trans h0, r⟩
end
section
variable {X : Cx} {cl : Cl} {wx : WX} {pos apos cpos spos : Pos} {o e ke : Expr} {fa fk : S → M D} {f : S → M (D × S)}
end
end Dt
/-! L10d: new trees; defs that change a tree -/
namespace Dt
open L2 PySem PySem.Spec PyProof.Rows
section
variable {K : PySem.W.Frag} {cl : Cl} {wx : WX} {w : Wf} {L : List Addr} {sd : S} {σ : L2.St} {g H H' : Hp} {Q : VK}
/-- a new tree -/
def PostFT (K : PySem.W.Frag) (cl : Cl) (wx : WX) (w : Wf) (L : List Addr) (σ : L2.St) (H : Hp) (Q : VK) : M (D × S) → Prop
  | some (.ok (d, s')) => ∀ p fp H', Step w L H (fp ++ L) H' → (∀ x ∈ fp, x ∉ L ++ w.O0) → Wl K cl w L s' σ H' → Wl K cl w (fp ++ L) s' σ H' → Tr K cl (hide (fp ++ L ++ w.O0) H') H' fp (.ref p) d → fp.Nodup → Q (.ref p) H'
  | some (.ex e s') => Wish K cl wx w e s'
  | none => False
theorem PostFT.bd {m : M (D × S)} {β : Type} {P : M β → Prop} (hb : Bot K cl wx w P) {f : D × S → M β} {Q : VK} (h : P (bd m f))
    (k : ∀ d s1, P (f (d, s1)) → ∀ p fp H1, Step w L H (fp ++ L) H1 → (∀ x ∈ fp, x ∉ L ++ w.O0) → Wl K cl w L s1 σ H1 → Wl K cl w (fp ++ L) s1 σ H1 → Tr K cl (hide (fp ++ L ++ w.O0) H1) H1 fp (.ref p) d → fp.Nodup → Q (.ref p) H1) : PostFT K cl wx w L σ H Q m := by
  match m, h with
  | none, h => exact (hb.no h).elim
  | some (.ex e s'), h => exact hb.ex e s' h
  | some (.ok (d, s1)), h => exact fun p fp H1 a b c d e f => k _ s1 h p fp H1 a b c d e f
/-- an own object without boxes is a tree -/
def isLDO : D → Bool
  | .lst _ => true
  | .dic _ _ => true
  | .obj _ _ => true
  | _ => false
theorem OwnAt.tree {h0 : Hp} {O : List Addr} {a : Addr} {d : D} (h : OwnAt K cl h0 O H a d) (n : isLDO d = true) : Tr K cl (hide O H) H [a] (.ref a) d := by
  cases d with
  | lst ds => obtain ⟨xs, e1, r⟩ := h; exact .lst e1 (trOfRp r)
  | dic ks ds => obtain ⟨kvs, e1, q, r⟩ := h; exact .dic e1 q (trOfRp r)
  | obj c ds => obtain ⟨C, ns, dx, fvs, k, e1, q, r⟩ := h; exact .obj k e1 q (trOfRp r)
  | _ => cases n
/-! ### a call that changes a tree -/
structure ChT (al : Bool) (H : Hp) (fp : List Addr) (H' : Hp) (fp' : List Addr) : Prop where
  keep : ∀ b o, b ∉ fp → H b = some o → H' b = some o
  alv : ∀ b, H b ≠ none → H' b ≠ none
  new : ∀ x ∈ fp', x ∈ fp ∨ (al = true ∧ H x = none)
  nd : fp'.Nodup
end
end Dt
/-! L10e: promises of defs that change a tree, and their calls -/
namespace Dt
open L2 PySem PySem.Spec PyProof.Rows
def FinT (K : PySem.W.Frag) (cl : Cl) (al : Bool) (O : List Addr) (H : Hp) (fp : List Addr) (a : Addr) (Q : VK) (E : XK) : M (D × D) → Prop
  | some (.ok (r, d')) => ∀ v H' fp', ChT al H fp H' fp' → Tr K cl (hide (fp' ++ O) H') H' fp' (.ref a) d' → Rp K cl (hide (fp' ++ O) H') v r → Q v H'
  | some (.ex e [.val d']) => ∀ cls d1 H' fp', ChT al H fp H' fp' → Tr K cl (hide (fp' ++ O) H') H' fp' (.ref a) d' → ExAt K cl (fp' ++ O) H' e cls d1 → E cls d1 H'
  | _ => False
section
variable {K : PySem.W.Frag} {cl : Cl} {wx : WX} {n : Nat} {H H' : Hp} {vs : List V} {ds : List D} {O : List Addr} {al : Bool} {fp : List Addr} {a : Addr}
end
/-! ### calls -/
section
variable {K : PySem.W.Frag} {cl : Cl} {wx : WX} {w : Wf} {L : List Addr} {sd : S} {σ : L2.St} {H H1 : Hp} {Q : VK} {i b : Nat} {d : D}
end
section
variable {X : Cx} {k n : Nat} {f : Addr} {fd : FuncData} {ps : List Str} {x : Str} {p pos : Pos} {e : Expr} {es : List Expr} {cl : Cl} {wx : WX} {fr : S → M (List D × S)} {gI : D → List D → M (D × D)}
end
end Dt
/-! L10f: methods with *rest that change a tree; trees made; fields; trees let go -/
namespace Dt
open L2 PySem PySem.Spec PyProof.Rows
theorem FinT.of_same {K : PySem.W.Frag} {cl : Cl} {al : Bool} {O : List Addr} {H H2 : Hp} {fp : List Addr} {a : Addr} {Q : VK} {E : XK} {m : M (D × D)} (sm : Same H H2) (h : FinT K cl al O H fp a Q E m) : FinT K cl al O H2 fp a Q E m := by
  have c : ∀ {H' fp'}, ChT al H2 fp H' fp' → ChT al H fp H' fp' := fun ch => ⟨fun b o n q => ch.keep b o n (sm b o q), fun b q => ch.alv b (by
    cases z : H b with
    | none => exact absurd z q
    | some o => rw [sm b o z]; simp), fun x hx => (ch.new x hx).imp id fun z => ⟨z.1, by
      cases y : H x with
      | none => rfl
      | some o => rw [sm x o y] at z; cases z.2⟩, ch.nd⟩
  match m, h with
  | none, h => exact h
  | some (.ok (r, d')), h => exact fun v H' fp' ch T rv => h v H' fp' (c ch) T rv
  | some (.ex e [.val d']), h => exact fun cls d1 H' fp' ch T x => h cls d1 H' fp' (c ch) T x
  | some (.ex e []), h => exact h.elim
  | some (.ex e (.un :: _)), h => exact h.elim
  | some (.ex e (.own _ :: _)), h => exact h.elim
  | some (.ex e (.io _ :: _)), h => exact h.elim
  | some (.ex e (.tre _ _ :: _)), h => exact h.elim
  | some (.ex e (.val _ :: _ :: _)), h => exact h.elim
/-! ### x.m(e, ..), x.m( *e) of such a method -/
section
variable {K : PySem.W.Frag} {cl : Cl} {wx : WX} {w : Wf} {L : List Addr} {sd : S} {σ : L2.St} {H H1 : Hp} {Q : VK} {i b : Nat} {d : D}
end
section
variable {X : Cx} {k n : Nat} {f C : Addr} {m c : Str} {pos apos py : Pos} {fd : FuncData} {ps : List Str} {e : Expr} {es : List Expr} {cl : Cl} {wx : WX} {fr : S → M (List D × S)} {fe : S → M D} {names : List Str} {gI : D → List D → M (D × D)}
end
/-! ### C(e, ..): a new tree, by __init__(self, *v) -/
section
variable {X : Cx} {k : Nat} {f C : Addr} {x c : Str} {p pos : Pos} {e : Expr} {es : List Expr} {cl : Cl} {wx : WX} {fr : S → M (List D × S)} {gI : D → List D → M (D × D)} {names : List Str}
end
end Dt
/-! L10g: slots that take trees, fields of trees, trees let go -/
namespace Dt
open L2 PySem PySem.Spec PyProof.Rows
section
variable {K : PySem.W.Frag} {cl : Cl} {wx : WX} {w : Wf} {L : List Addr} {sd : S} {σ : L2.St} {g g' H H' : Hp}
end
section
variable {X : Cx} {cl : Cl} {wx : WX} {pos : Pos} {w : Wf} {L : List Addr} {sd : S} {σ : L2.St} {H : Hp} {fe : S → M (D × S)} {e : Expr} {c f : Str} {C : Addr} {names : List Str} {j : Nat}
end
end Dt
/-! L10h: a new tree as a value; x, t = (e, a new tree) -/
namespace Dt
open L2 PySem PySem.Spec PyProof.Rows
section
variable {X : Cx} {cl : Cl} {wx : WX} {pos : Pos} {a b e : Expr} {f g : S → M (D × S)}
end
end Dt
/-! L10i: min of a list of plain data (alike), as data -/
namespace Dt
open L2 PySem PySem.Spec PyProof.Rows
open PySem.W (dataLt minD AlikeAll iter_listW cmpIn_lt moved_old readsAll_len argBest_fold)
section
variable {prog : Program} {w : World} {A : Around} {E : Value
      → Shared → Prop} {s : Shared}
end
end Dt
namespace Dt
open L2 PySem PySem.Spec PyProof.Rows
end Dt
namespace Dt
open L2 PySem PySem.Spec PyProof.Rows
section
variable {X : Cx} {cl : Cl} {wx : WX} {pos : Pos} {a b : Expr} {f g : S → M (D × S)}
end
end Dt
namespace Dt
open L2 PySem PySem.Spec PyProof.Rows
/-! ### C.m() and C.m(k = v, ..), m a classmethod of C -/
section
variable {X : Cx} {CX : CXT} {k n : Nat} {C p g : Addr} {fd : FuncData} {ps ks : List Str} {sp : Sp} {dvs : List V} {ds : List Value} {dd : List D} {E : L2.St → XK} {mc : Value} {m c x : Str} {p0 pos apos : Pos} {kws : List Keyword} {cl : Cl} {wx : WX} {fk : S → M (List D × S)} {gf : FnD} {names : List Str}
  {gv : List Value → List Value → List Value} {gV : List V → List V → List V} {gD : List D → List D → List D}
end
end Dt
namespace Dt
open L2 PySem PySem.Spec PyProof.Rows
/-! ### lists of anything, of different lengths or both empty: == and != -/
section
variable {X : Cx} {cl : Cl}
end
end Dt
/-! L10l: a new dict whose last item is a new list (a tree) -/
namespace Dt
open L2 PySem PySem.Spec PyProof.Rows
section
variable {X : Cx} {K : PySem.W.Frag} {cl : Cl} {wx : WX} {w : Wf} {L : List Addr} {sd s : S} {σ : L2.St} {H H' : Hp} {Q : VK} {pos : Pos} {k v : Expr} {keys : List (Option Expr)} {values : List Expr} {ks : List Key} {k0 : Key} {fr : S → M (List D × S)} {f : S → M (D × S)}
end
end Dt
/-! L10m: a def that returns a new tree: return e, e a new tree -/
namespace Dt
open L2 PySem PySem.Spec PyProof.Rows
section
variable {K : PySem.W.Frag} {cl : Cl}
end
section
variable {X : Cx} {k n m : Nat} {f : Addr} {fd : FuncData} {ps : List Str} {dvs : List V} {ds : List Value} {dd : List D} {x : Str} {p pos : Pos} {e : Expr} {es : List Expr} {cl : Cl} {wx : WX} {fr : S → M (List D × S)} {g : FnD}
end
end Dt
/-! L10n: any(a list of truth values); an own list of scalars as what a comprehension goes through -/
namespace Dt
open L2 PySem PySem.Spec PyProof.Rows
section
variable {X : Cx} {cl : Cl} {wx : WX}
end
/-! a dict comprehension that goes through own lists: all made in the view, the items are scalars -/
def flatD : D → Bool
  | .lst ds => ds.all D.scal
  | .dic _ ds => ds.all D.scal
  | _ => false
theorem RpA.scals {K : PySem.W.Frag} {cl : Cl} {g g' : Hp} : ∀ {vs : List V} {ds : List D}, RpA K cl g vs ds → ds.all D.scal = true → RpA K cl g' vs ds
  | _, _, .nil, _ => .nil
  | _, _, .cons r t, h => by
    (rw [List.all_cons, Bool.and_eq_true] at h)
    exact .cons (r.scal h.1) (RpA.scals t h.2)
theorem OwnAt.flat {K : PySem.W.Frag} {cl : Cl} {h0 h1 : Hp} {O O' : List Addr} {H : Hp} {a : Addr} {d : D} (h : OwnAt K cl h0 O H a d) (f : flatD d = true) : OwnAt K cl h1 O' H a d := by
  cases d with
  | lst ds => obtain ⟨xs, e, r⟩ := h; exact ⟨xs, e, r.scals f⟩
  | dic ks ds => obtain ⟨kvs, e, q, r⟩ := h; exact ⟨kvs, e, q, r.scals f⟩
  | _ => cases f
section
variable {X : Cx} {K : PySem.W.Frag} {cl : Cl} {wx : WX}
end
end Dt
namespace Dt
open L2 PySem PySem.Spec PyProof.Rows
/-! ### try: body, except tt as n: y = n.f -/
section
variable {X : Cx} {n f : Str} {i : Nat} {a : Addr} {oe : Obj} {cls : Value} {d : Option Addr} {pn : List (Addr × Obj)} {p0 p1 : Pos}
end
section
variable {X : Cx} {cl : Cl} {wx : WX} {n y f : Str} {i j m : Nat} {tt : Expr} {body : List Stmt} {pos pos' pos2 pn py p1 : Pos} {F : S → M Out} {ts : List Nat}
end
end Dt
namespace Dt
open L2 PySem PySem.Spec PyProof.Rows
/-! ### what is evaluated in the body of a def itself (super() looks at it) -/
section
variable {X : Cx} {bd : List Stmt} {e a b : Expr} {st : Stmt} {rest : List Stmt} {te ta tb : TE} {t u : TS} {pos : Pos}
end
end Dt
namespace Dt
open L2 PySem PySem.Spec PyProof.Rows
/-! ### super().m(..) in a method of the class D, self an instance of C -/
section
variable {X : Cx} {bd : List Stmt} {slf m : Str} {C D a dx f : Addr} {fs : List (Str × V)} {p0 p1 : Pos} {whole : Sem Value} {E : Value → Shared → Prop} {pins : List (Addr × Obj)} {σ : L2.St} {H : Hp} {s : Shared}
end
end Dt
namespace Dt
open L2 PySem PySem.Spec PyProof.Rows
section
variable {X : Cx} {CX : CXT} {bd : List Stmt} {k n : Nat} {C Dc f : Addr} {fd : FuncData} {ps : List Str} {sp : Sp} {dvs : List V} {ds : List Value} {dd : List D} {E : L2.St → XK} {slf m c : Str} {p0 p1 pos apos : Pos} {e : Expr} {es : List Expr} {t : TA} {cl : Cl} {wx : WX} {fr : S → M (List D × S)} {names : List Str}
end
/-! ### statements and expressions of such a body, by the data -/
section
variable {X : Cx} {bd : List Stmt} {K : PySem.W.Frag} {cl : Cl} {wx : WX} {st : Stmt} {rest : List Stmt} {ts us : List Nat} {F G : S → M Out} {f fa fb : S → M (D × S)} {e a b : Expr} {pos : Pos} {g : Op2}
end
end Dt
namespace Dt
open PySem PySem.Spec PyProof.Rows L2 NdefX
/-! ### defs that say super() -/
/-- a def with super() as it stands behind the top; Dc: the class whose text it stands in -/
structure FunS (P : Program) (K : PySem.W.Frag) (x qual : Str) (params : Arguments) (body : List Stmt) (scope : Scope) (dvs : List V) (kws : List (Str × V)) (f : Addr) (fd : FuncData) (Dc : Addr) : Prop where
  ex : ∃ (oc : Value) (od : Option Addr) (dV kV doc pm : Value) (an : Option Addr) (cda : Addr) (ct : Value) (osl : Array (Option Value)) (cc : Addr),
    fd = PySem.W.fnX x qual params body scope [("__class__", cc)] dV kV doc pm an (.ref cda) ct ∧ K.lookup f = some ⟨oc, od, .func fd, osl⟩ ∧ PySem.W.codeIn K (.ref cda) qual = true ∧ DflV K dV dvs ∧ KwdV K kV kws ∧
    (∃ (cl : Value) (cld : Option Addr) (csl : Array (Option Value)), K.lookup cc = some ⟨cl, cld, .cell (some (.ref Dc)), csl⟩) ∧
    (∃ (ccl : Value) (cdd : Option Addr) (vs : Array Value) (ccs : Array (Option Value)) (file : Str) (tf : Tok), K.lookup cda = some ⟨ccl, cdd, .fields vs, ccs⟩ ∧ vs[2]? = some (.str file tf) ∧ ((P.main.file : Str) == file) = true)
  kp : PySem.W.keepIn K
        (.ref f) = true
  cl : ∃ cdD, PySem.W.clsIn K Dc = some cdD
  slf : ∃ ar, (params.posonlyargs ++ params.args).head? = some ar
section
variable {P : Program} {K : PySem.W.Frag} {x qual : Str} {params : Arguments} {body : List Stmt} {scope : Scope} {dvs : List V} {kws : List (Str × V)} {f Dc : Addr} {fd : FuncData} {ps : List Str}
theorem FunS.bindsN (F : FunS P K x qual params body scope [] kws f fd Dc)
    (h : ∀ (kV doc pm : Value) (an : Option Addr) (cdv ct : Value) (us : List Value), us.length = ps.length
          → bindArgs (PySem.W.fnOf x qual params body scope .none kV doc pm an cdv ct) ⟨us, []⟩ = pure (ps.zip us)) : Binds K fd ps [] := by
  obtain ⟨oc, od, dV, kV, doc, pm, an, cdv, ct, osl, cc, rfl, lk, hcd, hD, hK, _⟩ := F.ex
  (rcases hD with ⟨_, rfl⟩ | ⟨e, _⟩)
  · exact .all (h kV doc pm an (.ref cdv) ct)
  · exact absurd rfl e
theorem FunS.kbinds0 (F : FunS P K x qual params body scope [] kws f fd Dc) (n : Nat) (ks : List Str) (ms : List (Str × V)) (g : {α : Type} → List α → List α → List α → List α) (hk : kws ≠ []) (hms : ∀ q ∈ ms, q ∈ kws)
    (hrel : ∀ {vs mz zs : List V} {us mv ws : List Value}, Vals vs us
          → Vals mz mv → Vals zs ws → Vals (g vs mz zs) (g us mv ws))
    (h : ∀ (D : Addr) (doc pm : Value) (an : Option Addr) (cdv ct : Value) (us mv ws : List Value), us.length = n
          → mv.length = ms.length → ws.length = ks.length →
      KwChain D
            ((ms.map (·.1)).zip mv) (bindArgs (PySem.W.fnOf x qual params body scope .none (.ref D) doc pm an cdv ct) ⟨us, ks.zip ws⟩) (ps.zip (g us mv ws))) :
    ∃ mv : List Value, KBn K fd ps n ks
          (fun us ws => g us mv ws) (fun vs zs => g vs (ms.map (·.2)) zs) := by
  obtain ⟨oc, od, dV, kV, doc, pm, an, cdv, ct, osl, cc, rfl, lk, hcd, hD, hK, _⟩ := F.ex
  (rcases hD with ⟨_, rfl⟩ | ⟨e, _⟩)
  · (rcases hK with e | ⟨D, rfl, hq⟩)
    · exact absurd e hk
    · obtain ⟨mv, hl, rk, hks⟩ := kwd_vals (ms := ms) fun q hq' => hq q (hms q hq')
      exact ⟨mv, ⟨fun s us ws X l1 l2 => BindsTo.of_looks fun M => KwChain.looks X hks (h D doc pm an (.ref cdv) ct us mv ws l1 hl l2), fun a b => hrel a rk b⟩⟩
  · exact absurd rfl e
end
/-! ### the body is run -/
section
variable {P : Program} {w : World} {K : PySem.W.Frag} {mg : Str → Option Value} {base : Heap} {CX : CXT} {k : Nat} {x qual slf : Str} {params : Arguments} {body : List Stmt} {scope : Scope} {dvs : List V} {kws : List (Str × V)} {f Dc : Addr} {fd : FuncData} {N ps : List Str} {sp : Sp}
end
end Dt
namespace Dt
open PySem PySem.Spec PyProof.Rows L2 NdefX
section
variable {K : PySem.W.Frag} {cl : Cl} {wx : WX} {n : Nat} {H : Hp} {vs : List V} {ds : List D} {O : List Addr}
end
section
variable {K : PySem.W.Frag} {cl : Cl} {wx : WX} {n : Nat} {H : Hp} {vs : List V} {ds : List D} {O : List Addr}
end
section
variable {P : Program} {w : World} {K : PySem.W.Frag} {cl : Cl} {mg : Str → Option Value} {base : Heap} {k n : Nat} {x qual slf : Str} {params : Arguments} {body : List Stmt} {scope : Scope} {dvs : List V} {kws : List (Str × V)} {f Dc : Addr} {fd : FuncData} {N ps : List Str} {F : S → M Out}
end
/-! ### the head's facts -/
def seenS (K : PySem.W.Frag) (a : Addr) : He.FnW := (K.lookup a).bind fun o => match o.data with
  | .func fd => some (fd.name, fd.qualname, fd.params, fd.body, fd.scope, fd.globals, fd.closure.map (fun c => (c.1, 0)), fd.builtins)
  | _ => none
def DefC.valS (d : DefC) : He.FnW := some (d.name, d.qual, d.params, .stmts d.body, d.scope, mainGlobals, [("__class__", 0)], builtinsNs)
def cellB (K : PySem.W.Frag) (cl : List (Str × Addr)) (Dc : Addr) : Bool := match cl with
  | [(_, cc)] => (match K.lookup cc with
    | some ⟨_, _, .cell (some (.ref D')), _⟩ => decide (D' = Dc)
    | _ => false)
  | _ => false
def fileB (K : PySem.W.Frag) (code : Value) (file : Str) : Bool := match code with
  | .ref c =>
        (match K.lookup c with
    | some ⟨_, _, .fields vs, _⟩ => (match (vs[2]? : Option Value) with
      | some (.str f _) => file == f
      | _ => false)
    | _ => false)
  | _ => false
def supB (K : PySem.W.Frag) (file C : Str) (d : DefC) : Bool := d.at_.ok K && (PySem.W.keepIn K (.ref (d.adr K)) && ((PySem.W.clsIn K (He.ga K C)).isSome && ((d.params.posonlyargs ++ d.params.args).head?.isSome && (match K.lookup (d.adr K) with
  | some o =>
        (match o.data with
    | .func fd => PySem.W.codeIn K fd.code d.qual && (He.dflB K fd.defaults (d.dvs K) && (He.kwdB K fd.kwdefaults (d.kws K) && (cellB K fd.closure (He.ga K C) && fileB K fd.code file)))
    | _ => false)
  | none => false))))
def obsS (fa : List He.Fa) (fn : List DefC) (fs : List (Str × DefC)) (file : Str) (ex : PySem.W.Frag → Bool) (K : PySem.W.Frag) : AlC := ((fa.all fun f => f.ok K) && ((fn.all fun d => d.ok K) && (ex K && (fs.all fun q => supB K file q.1 q.2))), fn.map (fun d => seen K (d.adr K)) ++ fs.map fun q => seenS K (q.2.adr K))
def valT (fn : List DefC) (fs : List (Str × DefC)) : AlC := (true, fn.map DefC.val ++ fs.map fun q => q.2.valS)
def SaysT (fa : List He.Fa) (fn : List DefC) (fs : List (Str × DefC)) (file : Str) (ex : PySem.W.Frag → Bool) (K : PySem.W.Frag) : Prop := obsS fa fn fs file ex K = valT fn fs
section
variable {fa : List He.Fa} {fn : List DefC} {fs : List (Str × DefC)} {file : Str} {ex : PySem.W.Frag → Bool} {K : PySem.W.Frag}
theorem SaysT.b (c : SaysT fa fn fs file ex K) : ((fa.all fun f => f.ok K) && ((fn.all fun d => d.ok K) && (ex K && (fs.all fun q => supB K file q.1 q.2)))) = true := congrArg (fun z : AlC => z.1) c
theorem SaysT.c (c : SaysT fa fn fs file ex K) : SaysC fa fn ex K := by
  obtain ⟨h1, h⟩ := He.ba c.b
  obtain ⟨h2, h⟩ := He.ba h
  obtain ⟨h3, h4⟩ := He.ba h
  have e : fn.map (fun d => seen K (d.adr K)) ++ fs.map (fun q => seenS K (q.2.adr K)) = fn.map DefC.val ++ fs.map (fun q => q.2.valS) := congrArg (fun z : AlC => z.2) c
  have e1 := (List.append_inj e (by rw [List.length_map, List.length_map])).1
  show ((fa.all fun f => f.ok K) && ((fn.all fun d => d.ok K) && ex K), fn.map fun d => seen K (d.adr K)) = (true, fn.map DefC.val)
  rw [h1, h2, h3, e1]
  rfl
end
end Dt
/-! L11f: == of objects of different classes, isinstance with a table, one rule or another, str(o), sep.join, a view of an object -/
namespace Dt
open L2 PySem PySem.Spec PyProof.Rows
/-! ### one rule or another -/
section
variable {X : Cx} {cl : Cl} {wx : WX} {e : Expr} {f g : S → M (D × S)}
/-- what never runs to an end -/
def dNever : S → M (D × S) := fun _ => none
theorem d_never : PE X e (TEof X.K cl wx dNever) := ⟨fun _ _ _ _ _ _ h => by obtain ⟨_, _, _, _, h⟩ := h; exact h.elim⟩
end
/-! ### isinstance(x, C), with a table of answers -/
def tyC : D → Option Str
  | .obj c _ => some c
  | _ => none
def isU (tb : List (Str × Bool)) (tt : List (String × Bool)) (d : D) : M D := match tyC d with
  | some c => (match tb.lookup c with
    | some b => ok (.bl b)
    | none => none)
  | none => (match tyD d with
    | some n => (match tt.lookup n with
      | some b => ok (.bl b)
      | none => none)
    | none => none)
def dIsU (tb : List (Str × Bool)) (tt : List (String × Bool)) (f : S → M (D × S)) : S → M (D × S) := fun s => bd (f s) fun p => bd (isU tb tt p.1) fun r => ok (r, p.2)
section
variable {X : Cx} {cl : Cl} {wx : WX} {pos p0 p2 : Pos} {e : Expr} {f : S → M (D × S)} {x : Str} {C0 : Addr}
theorem tt_nil {P : String → Bool → Prop} : ∀ c b, ([] : List (String × Bool)).lookup c = some b → P c b := fun _ _ h => by cases h
theorem tt_cons {P : String → Bool → Prop} {n : String} {b0 : Bool} {r : List (String × Bool)} (h : P n b0) (hr : ∀ c b, r.lookup c = some b → P c b) : ∀ c b, ((n, b0) :: r).lookup c = some b → P c b := by
  intro c b e
  rw [List.lookup] at e
  split at e
  · next hb =>
    cases e
    rw [beq_iff_eq.mp hb]
    exact h
  · exact hr c b e
theorem d_isU (tb : List (Str × Bool)) (tt : List (String × Bool)) (kt : ∀ c b, tb.lookup c = some b → ∃ C names, cl c = some (C, names) ∧ C8.InsC X.K C ∧ PySem.W.kitOne X.K (.ref C) (.ref C0) = some b)
    (kn : ∀ n b, tt.lookup n = some b → PySem.W.kitOne X.K (.type n) (.ref C0) = some b) (he : PE X e (TEof X.K cl wx f)) (hm : X.mg "isinstance" = none) (hx : X.mg x = some (.ref C0)) (hb : bootBuiltins "isinstance" = some (.builtin "isinstance")) (hg : Gl X "isinstance" := by rfl) (hgx : Gl X x := by rfl)
    (hd : (x == ("__debug__" : Str)) = false := by decide) (h1 : starEach [e, .Name x p2] X.env = (false, eval e X.env) :: starEach [.Name x p2] X.env := by rfl) (h2 : starEach [.Name x p2] X.env = (false, eval (.Name x p2) X.env) :: starEach [] X.env := by rfl)
    (hpl : (backTo pos (starEach [.Name x p2] X.env)).any (·.1) = false := by rfl) : PE X (.Call (.Name "isinstance" p0) [e, .Name x p2] [] pos) (TEof X.K cl wx (dIsU tb tt f)) := by
  refine iE (pe_callB call_isi hg hm hb (pa_cons he (pa_cons (pe_glob hgx hx (v := .ref C0) rfl hd) pa_nil h2) h1) (by decide) (by decide) h1 hpl) ?_
  rintro σ H Q ⟨w, L, sd, W, h⟩
  refine ⟨w, L, sd, W, PostE.bd botE h fun r s1 h v H1 st1 W1 rr => ?_⟩
  have h' := h.fin st1 W1
  clear h
  unfold isU at h'
  split at h'
  · next c hc0 =>
    split at h'
    · next b hb =>
      obtain ⟨C, names, hc, ic, hk⟩ := kt c b hb
      cases rr with
      | obj k0 e0 n0 r0 =>
        cases hc0
        rw [hc] at k0
        cases k0
        exact ⟨_, .ref C0, _, _, b, rfl, .own C0, .base (.ins (hide_some.mp e0).2 ic.cl ic.ha ic.hn ic.htk ic.hm), hk, h'.now (.bl b)⟩
      | _ => cases hc0
    · exact h'.elim
  · split at h'
    · next n e1 =>
      split at h'
      · next b e2 => exact ⟨v, .ref C0, _, _, b, rfl, .own C0, ty_of rr e1, kn n b e2, h'.now (.bl b)⟩
      · exact h'.elim
    · exact h'.elim
end
/-! ### x == y, y of another class -/
section
variable {prog : Program} {w : World} {A : Around} {E : Value → Shared → Prop} {s : Shared} {K : PySem.W.Frag} {x y C C2 f : Addr} {ox oy : Obj} {od od' : Option Obj}
end
section
variable {X : Cx} {CX : CXT} {k : Nat} {C C2 f : Addr} {fd : FuncData} {ps names names2 : List Str} {sp : Sp} {E : XK} {cl : Cl} {c c2 : Str} {g : FnD}
def rOwnT (K : PySem.W.Frag) (C : Addr) (sp : Sp) (E : XK) : R2 := fun x y H Q => ∃ a b dx fs us, x = .ref a ∧ y = .ref b ∧ H a = some (.ins C dx fs) ∧ SqT K H b us ∧ sp [.ref a, .ref b] H (fun v H' => ∃ t, v = .bl t ∧ Q (.bl t) H') E
theorem op_eqT (F : FnG X.prog X.w X.K X.mg X.base CX k f fd ps sp) (hgd : X.A.guards = some []) (hr : Room k X.A) (hb : Binds X.K fd ps []) (hx : Passes CX X.nox E)
    (hs : PySem.W.findIn X.K (.ref C) "__eq__" = some (some (.ref f))) (hf : PySem.W.isFn X.K (.ref f) = true) : OpR X (compareOp .Eq) (rOwnT X.K C sp E) := by
  (intro pins s σ H x y v u Q I rx ry h)
  obtain ⟨a, b, dx, fs, us, rfl, rfl, ha, hb', q⟩ := h
  cases rx
  cases ry
  (obtain ⟨mA, J, _⟩ := ins_get I.hok ha)
  obtain ⟨od, J, _⟩ := J.look
  obtain ⟨its, r, ⟨o, ho, hc, _⟩, _⟩ := I.tuple hb'
  obtain ⟨m, hF⟩ := I.fr
  show wpAny (model X.prog X.w) X.A (richCompare .Eq (.ref a) (.ref b)) (EP X pins σ Q) X.xe s
  refine PySem.W.cmp_K (op := .Eq) (tb := .type "tuple") hr.units0 hF I.ok.mod.kin J (hc ▸ (PySem.W.Looks.ld ho).andThen .now) ?_ hs hf ?_
  · show (Value.type "tuple" == .ref C || (PySem.W.subIn X.K (.type "tuple") (.ref C) == some false)) = true
    rw [Bool.or_eq_true]
    exact .inr (by unfold PySem.W.subIn; kernel_rfl)
  refine wpAny_mono (own_run (neg := id) F hgd hr hb hx I I.env0 q) (fun r s' z => ?_) fun _ _ e => e
  obtain ⟨t, rfl, z⟩ := z
  exact z
/-- what a comparing def gives back -/
def blM (m : M D) : M D := bd (nx m) fun r => match r with
  | .bl t => ok (.bl t)
  | _ => none
theorem blM_read {K : PySem.W.Frag} {O : List Addr} {H : Hp} {Q : VK} {m : M D} (h : Fin1 K cl O H Q (blM m)) : FinD K cl O H (fun v H' => ∃ t, v = .bl t ∧ Q (.bl t) H') E m := by
  unfold blM at h
  match m, h with
  | none, h => exact h.elim
  | some (.ex _ _), h => exact h.elim
  | some (.ok (.bl t)), h =>
    intro v H' sm rp
    cases rp
    exact ⟨t, rfl, h _ _ sm (.bl _)⟩
  | some (.ok .non), h => exact h.elim
def ownTQ (c : Str) (g : FnD) : Op2 := fun a b => match a, b with
  | .obj c1 fs, .tup ys => if c1 = c then blM (g [.obj c1 fs, .tup ys]) else none
  | _, _ => none
theorem ownT_read (kc : ClsD X.K cl c C names) : OpD X.K cl (rOwnT X.K C (spP X.K cl 2 g) E) (ownTQ c g) := by
  intro O H x y d e Q al rx ry h
  unfold ownTQ at h
  cases d with
  | obj c1 fs =>
    cases e with
    | tup ys =>
      dsimp only at h
      split at h
      · next ec =>
        subst ec
        have rx0 := rx
        have ry0 := ry
        cases rx with
        | obj k0 e0 n0 r0 =>
          cases ry with
          | tup q1 r1 =>
            rw [kc.at_] at k0
            cases k0
            exact ⟨_, _, _, _, _, rfl, rfl, (hide_some.mp e0).2, same_sqT hide_le q1, rfl, O, _, al, .cons rx0 (.cons ry0 .nil), blM_read h⟩
      · exact h.elim
    | _ => exact h.elim
  | _ => exact h.elim
theorem k_eqOT (kc : ClsD X.K cl c C names) (hm : Meth X.K C "__eq__" f) (F : FnG X.prog X.w X.K X.mg X.base (L2.CX X.prog X.w) k f fd ps (spP X.K cl 2 g)) (hgd : X.A.guards = some []) (hr : Room k X.A) (hb : Binds X.K fd ps []) : OpK X X.K cl (compareOp .Eq) (ownTQ c g) :=
  ⟨_, op_eqT F hgd hr hb passN hm.at_ hm.fn, ownT_read kc⟩
end
end Dt
/-! L11g: C(e, .., k = v, ..); str(o); sep.join(texts); a view that gives an object -/
namespace Dt
open L2 PySem PySem.Spec PyProof.Rows
/-! ### C(e, .., k = v, ..) -/
section
variable {X : Cx} {CX : CXT} {k n m j : Nat} {f C : Addr} {fd : FuncData} {ps ks names : List Str} {c x : Str} {p pos : Pos} {e : Expr} {es : List Expr} {kws : List Keyword} {cl : Cl} {wx : WX} {fr fk : S → M (List D × S)} {g : D → List D → M (D × D)}
end
/-! ### texts: x + y, sep.join(xs), str(o) -/
def strs? : List D → Option (List Str)
  | [] => some []
  | .str x :: r =>
        (strs? r).map (x :: ·)
  | _ => none
def joinD : Op2 := fun a b => match a, b with
  | .str x, .lst ds => (match strs? ds with
    | some ys => if (ys.map (·.length)).sum + ys.length * x.length ≤ 16777216 then ok (.str (Txt.join x ys)) else none
    | none => none)
  | .str x, .tup ds => (match strs? ds with
    | some ys => if (ys.map (·.length)).sum + ys.length * x.length ≤ 16777216 then ok (.str (Txt.join x ys)) else none
    | none => none)
  | _, _ => none
def dJoin (fa fb : S → M (D × S)) : S → M (D × S) := fun s => bd (fa s) fun p => match p.1 with
  | .str x => bd (fb p.2) fun q => bd (joinD (.str x) q.1) fun r => ok (r, q.2)
  | _ => none
theorem RpA.strs {K : PySem.W.Frag} {cl : Cl} {H : Hp} : ∀ {vs : List V} {ds : List D} {ys : List Str}, RpA K cl H vs ds → strs? ds = some ys → vs = ys.map V.str
  | _, _, _, .nil, e => by
    cases e
    rfl
  | _, d :: ds, ys, .cons a b, e => by
    cases a with
    | str x =>
      unfold strs? at e
      obtain ⟨zs, e1, rfl⟩ := Option.map_eq_some_iff.mp e
      rw [RpA.strs b e1]
      rfl
    | _ => cases e
section
variable {X : Cx} {cl : Cl} {wx : WX} {o e : Expr} {fa fb : S → M (D × S)} {apos cpos : Pos}
theorem d_join (ho : PE X o (TEof X.K cl wx fa)) (he : PE X e (TEof X.K cl wx fb)) (hs : starEach [e] X.env = [(false, eval e X.env)] := by rfl) (hbase : attributeBase o "join" X.env (eval o X.env) = eval o X.env := by rfl) (hline : (apos.endLine == cpos.line) = true := by rfl) :
    PE X (.Call (.Attribute o "join" apos) [e] [] cpos) (TEof X.K cl wx (dJoin fa fb)) := by
  refine iE (pe_join ho he hs hbase hline) ?_
  rintro σ H Q ⟨w, L, sd, W, h⟩
  unfold dJoin at h
  refine ⟨w, L, sd, W, PostE.bd botE h fun x s1 h v H1 st1 W1 rx => ?_⟩
  cases rx with
  | str a =>
    refine ⟨⟨a, rfl⟩, w, L, s1, W1, PostE.bd botE h fun y s2 h u H2 st2 W2 ry => ?_⟩
    have h' := h.fin (st1.trans st2) W2
    cases y with
    | lst ds =>
      cases ry with
      | lst q r =>
        have h2 : Fin1 X.K cl (L ++ w.O0) H2 Q (match strs? ds with
          | some ys => if (ys.map (·.length)).sum + ys.length * a.length ≤ 16777216 then ok (.str (Txt.join a ys)) else none
          | none => none) := h'
        split at h2
        · next ys ey =>
          split at h2
          · next c =>
            rw [r.strs ey] at q
            exact ⟨_, _, ys, rfl, rfl, .inl (hide_le.seq q), c, h2.now (.str _)⟩
          · exact h2.elim
        · exact h2.elim
    | tup ds =>
      cases ry with
      | tup q r =>
        have h2 : Fin1 X.K cl (L ++ w.O0) H2 Q (match strs? ds with
          | some ys => if (ys.map (·.length)).sum + ys.length * a.length ≤ 16777216 then ok (.str (Txt.join a ys)) else none
          | none => none) := h'
        split at h2
        · next ys ey =>
          split at h2
          · next c =>
            rw [r.strs ey] at q
            exact ⟨_, _, ys, rfl, rfl, .inr (same_sqT hide_le q), c, h2.now (.str _)⟩
          · exact h2.elim
        · exact h2.elim
    | _ => exact h'.elim
  | _ => exact h.elim
end
section
variable {X : Cx} {CX : CXT} {k : Nat} {C f : Addr} {fd : FuncData} {ps names : List Str} {sp : Sp} {E : XK} {cl : Cl} {c : Str} {g : FnD}
def rStrO (C : Addr) (sp : Sp) (E : XK) : List V → Hp → VK → Prop := fun xs H Q => ∃ a dx fs, xs = [.ref a] ∧ H a = some (.ins C dx fs) ∧ sp [.ref a] H (fun v H' => ∃ x : Str, v = .str x ∧ Q (.str x) H') E
theorem cr_strO (F : FnG X.prog X.w X.K X.mg X.base CX k f fd ps sp) (hgd : X.A.guards = some []) (hr : Room (k + 2) X.A) (hb : Binds X.K fd ps []) (hx : Passes CX X.nox E)
    (hs : PySem.W.findIn X.K (.ref C) "__str__" = some (some (.ref f))) (hf : PySem.W.isFn X.K (.ref f) = true) : CallR X (.type "str") (rStrO C sp E) := by
  intro pins s σ H vs us Q I rv h
  (obtain ⟨a, dx, fs, rfl, ha, q⟩ := h)
  obtain ⟨u, rfl, ru⟩ := rv.one
  cases ru
  (obtain ⟨mA, J, _⟩ := ins_get I.hok ha)
  obtain ⟨od, J, _⟩ := J.look
  have hr2 : Room k X.A.in1.in1 := (show Room (k + 1) X.A.in1 from Room.in1 hr).in1
  refine PySem.W.kso_call hr2.units0 I.kIn J hs hf ?_
  have hl : ([Value.ref a] ++ []).length = ps.length := F.len _ _ _ _ q
  refine wpAny_call (codeAny_mono (F.go X.A.in1.in1 X.stack s H ⟨[.ref a], []⟩ [.ref a] [.ref a] _ E hgd hr2 I.env0.in1.in1 (hb s [.ref a] I.kIn hl) (.cons rfl .nil) q) fun r s' hq => ?_)
  match r, hq with
  | .error er, hq => exact False.elim (hx pins σ H s er s' (I.wish _) hq)
  | .ok (.ret u), hq =>
    obtain ⟨v, H', I3, rv, x, ev, q3⟩ := I.after hq
    subst ev
    obtain ⟨t, rfl⟩ := rv
    exact ⟨.str x, H', I3, ⟨_, rfl⟩, q3⟩
  | .ok .next, hq => exact hq.elim
  | .ok .brk, hq => exact hq.elim
  | .ok .cont, hq => exact hq.elim
def strO (c : Str) (g : FnD) : OpN := fun ds => match ds with
  | [.obj c' fs] => if c' = c then bd (nx (g [.obj c' fs])) fun r => match r with
    | .str x => ok (.str x)
    | _ => none else none
  | _ => none
theorem c_strO (kc : ClsD X.K cl c C names) (hm : Meth X.K C "__str__" f) (F : FnG X.prog X.w X.K X.mg X.base (L2.CX X.prog X.w) k f fd ps (spP X.K cl 1 g)) (hgd : X.A.guards = some []) (hr : Room (k + 2) X.A) (hb : Binds X.K fd ps []) : CallK X X.K cl (.type "str") (strO c g) := by
  refine ⟨_, cr_strO F hgd hr hb passN hm.at_ hm.fn, fun O H xs ds Q al r h => ?_⟩
  unfold strO at h
  split at h
  · next c' fs =>
    split at h
    · next ec =>
      subst ec
      obtain ⟨v, rfl, rv⟩ := r.one
      have rv0 := rv
      cases rv with
      | obj k0 e0 n0 r0 =>
        rw [kc.at_] at k0
        cases k0
        refine ⟨_, _, _, rfl, (hide_some.mp e0).2, rfl, O, _, al, .cons rv0 .nil, ?_⟩
        generalize g _ = mm at h ⊢
        match mm, h with
        | none, h => exact h.elim
        | some (.ex _ _), h => exact h.elim
        | some (.ok (.str x)), h =>
          intro v H' sm rp
          cases rp
          exact ⟨x, rfl, h _ _ sm (.str _)⟩
        | some (.ok .non), h => exact h.elim
    · exact h.elim
  · exact h.elim
end
/-! ### an object made while own lists are seen -/
section
variable {X : Cx} {K : PySem.W.Frag} {cl : Cl} {wx : WX} {w : Wf} {L : List Addr} {sd : S} {σ : L2.St} {H : Hp} {f : S → M (D × S)} {e : Expr}
end
end Dt
/-! L12a: for k, x in d.items(), d a dict that is a value -/
namespace Dt
open L2 PySem PySem.Spec PyProof.Rows
section
variable {X : Cx} {cl : Cl} {wx : WX} {pos : Pos} {body : List Stmt} {ts us : List Nat} {F : S → M Out} {T : D → S → M S} {elts : List Expr} {kk : Nat} {tpos apos cpos : Pos}
end
end Dt
/-! L12b: def f(**d), called with keywords only: d is a new dict -/
namespace Dt
open L2 PySem PySem.Spec PyProof.Rows
section
variable {prog : Program} {w : World} {A : Around} {E : Value
      → Shared → Prop}
end
section
variable {P : Program} {w : World} {K : PySem.W.Frag} {mg : Str
      → Option Value} {base : Heap} {A : Around} {outer : List Env} {s : Shared} {H : Hp}
end
/-! ### the def -/
/-! ### the call f(k = e, ..) -/
section
variable {X : Cx} {cl : Cl} {wx : WX} {k : Nat} {f : Addr} {x : Str} {p pos : Pos} {ks : List Str} {kws : List Keyword} {fk : S → M (List D × S)} {g : FnD}
end
end Dt
/-! L12c: x, *xs = a tuple -/
namespace Dt
open L2 PySem PySem.Spec PyProof.Rows
section
variable {prog : Program} {w : World} {A : Around} {E : Value
      → Shared → Prop} {s : Shared}
end
/-! ### the target -/
def gSt (f : List D → S → M S) : D → S → M S := fun d s => match d with
  | .tup (x :: ds) => if ds.length ≤ 16000 then f [x, .lst ds] s else none
  | _ => none
instance (f : List D → S → M S) [a : NoXs f] : NoX (gSt f) := ⟨fun d s e s' h => by
  unfold gSt at h
  split at h
  · split at h
    · exact a.no _ _ _ _ h
    · cases h
  · cases h⟩
section
variable {X : Cx} {cl : Cl} {wx : WX} {pos p2 : Pos} {e1 e2 : Expr} {k : Nat} {ts : List Nat} {f : List D → S → M S}
end
end Dt
/-! L13a: a method def m(self, **d) called with keywords only, or with none -/
namespace Dt
open L2 PySem PySem.Spec PyProof.Rows
/-! ### the call o.m(k = e, ..) -/
section
variable {X : Cx} {cl : Cl} {wx : WX} {k : Nat} {f C : Addr} {c m : Str} {p pos apos : Pos} {o : Expr} {ks names : List Str} {kws : List Keyword} {fo : S → M (D × S)} {fk : S → M (List D × S)} {g : FnD}
end
end Dt
/-! L13b: f( *e) of def f( *v); o.m() of def m(self, *v) -/
namespace Dt
open L2 PySem PySem.Spec PyProof.Rows
section
variable {X : Cx} {k : Nat} {f C : Addr} {x c m : Str} {p pos sp_ apos : Pos} {e o : Expr} {cl : Cl} {wx : WX} {fe fo : S → M (D × S)} {g : FnD} {names : List Str}
end
end Dt
/-! L13c: list(d.items()), list(d.values()), d a dict that is a value -/
namespace Dt
open L2 PySem PySem.Spec PyProof.Rows
section
variable {X
      : Cx} {pins : List (Addr × Obj)} {σ : L2.St} {H : Hp} {s : Shared}
end
section
variable {X
      : Cx} {e : Expr} {te : TE} {p apos cpos pos : Pos}
end
/-! ### the mirrors -/
section
variable {X : Cx} {e : Expr} {cl : Cl} {wx : WX} {fe : S → M (D × S)} {p apos cpos pos : Pos}
end
end Dt
/-! L13d: {k: e for a, b in d.items()}, d a dict that is a value -/
namespace Dt
open L2 PySem PySem.Spec PyProof.Rows
section
variable {K : PySem.W.Frag} {cl : Cl} {wx : WX} {w : Wf} {L : List Addr} {sd : S} {σ : L2.St} {H : Hp} {d : Addr} {kvs : List (Key × V)} {od : Obj} {Q : VK}
end
section
variable {K : PySem.W.Frag} {cl : Cl} {wx : WX} {σ : L2.St} {H : Hp} {a : Addr} {kvs : List (Key × V)} {od : Obj}
end
section
variable {X : Cx} {cl : Cl} {wx : WX} {pos apos cpos tpos : Pos} {elts : List Expr} {kk : Nat}
end
end Dt
/-! L13e: len(set(xs)), xs a list of ints -/
namespace Dt
open PySem PySem.Spec PyProof.Rows L2 GenW
section
variable {X : Cx}
end
section
variable {X : Cx} {cl : Cl} {wx : WX} {pos pos' p p' : Pos} {e : Expr} {fr : S → M (List D × S)}
end
end Dt
/-! L13f: == and != of dicts of different lengths, or both empty -/
namespace Dt
open L2 PySem PySem.Spec PyProof.Rows
section
variable {X : Cx} {cl : Cl}
end
end Dt
/-! L13g: texts of nested lists of ints, bools, None and short texts -/
namespace Dt
open L2 PySem PySem.Spec PyProof.Rows
mutual
def D.rokU : D → Bool
  | .non => true
  | .bl _ => true
  | .int i => decide
        (i.natAbs.log2 < 1920)
  | .str s => PyData.showable (.str s) && PyData.leavesShort 1921 (.str s)
  | .lst xs => D.rokUs xs
  | .tup xs => D.rokUs xs
  | _ => false
def D.rokUs : List D → Bool
  | [] => true
  | x :: xs => D.rokU x && D.rokUs xs
end
mutual
def D.blkU : D → Nat
  | .lst xs => D.blksU xs
  | .tup xs => D.blksU xs
  | .str s => s.cps.size
  | _ => 0
def D.blksU : List D → Nat
  | [] => 0
  | x :: xs => D.blkU x + 1 + D.blksU xs
end
mutual
theorem rokU_all : ∀ d : D, d.rokU = true → d.plain = true ∧ d.py.showable = true ∧ PyData.leavesShort 1921 d.py = true ∧ d.py.bulk = d.blkU ∧ d.py.depth = d.dep
  | .non, _ => ⟨rfl, rfl, rfl, by simp [D.py, PyData.bulk, D.blkU], by simp [D.py, PyData.depth, D.dep]⟩
  | .bl _, _ => ⟨rfl, rfl, rfl, by simp [D.py, PyData.bulk, D.blkU], by simp [D.py, PyData.depth, D.dep]⟩
  | .int i, h => by
    have h' : (D.int i).rok = true := by
      rw [D.rokU] at h
      rw [D.rok]
      exact h
    obtain ⟨a1, a2, a3, a4, a5⟩ := rok_all (.int i) h'
    exact ⟨a1, a2, a3, by rw [a4]; simp [D.blk, D.blkU], a5⟩
  | .str s, h => by
    rw [D.rokU] at h
    obtain ⟨h1, h2⟩ := Bool.and_eq_true_iff.mp h
    exact ⟨rfl, h1, h2, by rw [D.py, PyData.bulk, D.blkU], by simp [D.py, PyData.depth, D.dep]⟩
  | .lst xs, h => by
    obtain ⟨h1, h2, h3, h4, h5⟩ := rokUs_all xs h
    rw [D.plain, D.py]
    refine ⟨h1, h2, h3, ?_, ?_⟩
    · rw [PyData.bulk, h4, D.blkU]
    · rw [PyData.depth, h5, D.dep]
  | .tup xs, h => by
    obtain ⟨h1, h2, h3, h4, h5⟩ := rokUs_all xs h
    rw [D.plain, D.py]
    refine ⟨h1, h2, h3, ?_, ?_⟩
    · rw [PyData.bulk, h4, D.blkU]
    · rw [PyData.depth, h5, D.dep]
  | .obj _ _, h => by cases h
  | .dic _ _, h => by cases h
  | .err _ _, h => by cases h
  | .cls _, h => by cases h
  | .box _, h => by cases h
theorem rokUs_all : ∀ ds : List D, D.rokUs ds = true → D.plains ds = true ∧ PyData.showableAll (D.pys ds) = true ∧ PyData.leavesShortAll 1921 (D.pys ds) = true ∧ PyData.bulkAll (D.pys ds) = D.blksU ds ∧ PyData.depthAll (D.pys ds) = D.deps ds
  | [], _ => ⟨rfl, rfl, rfl, rfl, rfl⟩
  | d :: ds, h => by
    rw [D.rokUs] at h
    obtain ⟨ha, hb⟩ := Bool.and_eq_true_iff.mp h
    obtain ⟨a1, a2, a3, a4, a5⟩ := rokU_all d ha
    obtain ⟨b1, b2, b3, b4, b5⟩ := rokUs_all ds hb
    rw [D.plains, D.pys]
    refine ⟨by rw [a1, b1]; rfl, ?_, ?_, ?_, ?_⟩
    · rw [PyData.showableAll, a2, b2]; rfl
    · rw [PyData.leavesShortAll, a3, b3]; rfl
    · rw [PyData.bulkAll, a4, b4, D.blksU]
    · rw [PyData.depthAll, a5, b5, D.deps]
end
theorem repr_lstU {xs : List D} (h : D.rokUs xs = true) (hb : D.blksU xs ≤ 8000) (hd : D.deps xs ≤ 59) : reprN [.lst xs] = ok (.str (D.py (.lst xs)).shown) := by
  obtain ⟨h1, h2, h3, h4, h5⟩ := rokUs_all xs h
  have h6 := PyData.shown_le_bulk 1921 (by decide) (.list (D.pys xs)) h3
  rw [PyData.bulk, h4] at h6
  unfold reprN
  dsimp only
  rw [if_pos]
  rw [D.py]
  refine ⟨h1, h2, ?_, ?_⟩
  · rw [PyData.depth, h5]
    omega
  · have : (1921 + 2) * D.blksU xs ≤ 1923 * 8000 := Nat.mul_le_mul (by omega) hb
    show _ ≤ 2 ^ 24
    omega
end Dt
/-! L14a: match of a text against written texts; class constants that are texts -/
namespace Dt
open L2 PySem PySem.Spec PyProof.Rows
section
variable {X : Cx} {K : PySem.W.Frag} {cl : Cl} {wx : WX}
end
/-! ### C.f, a text of the class -/
section
variable {X : Cx} {cl : Cl} {wx : WX} {pos p0 p2 : Pos} {x : Str}
end
end Dt
namespace Dt
open L2 PySem PySem.Spec PyProof.Rows
/-! ### a lambda without parameters: its making, its call -/
/-- a table of code objects, each with the name q; O: what is hidden -/
def TabAt (O : List Addr) (H : Hp) (P : Addr) (q : Str) : Prop := ∃ ps : Array Value, H P = some (.tbl ps) ∧ TriplesOk ps.toList ∧ ∀ (pos : Pos) (cv : Value), codeAmong pos ps.toList = some cv → ∃ c, cv = .ref c ∧ hide O H c = some (LamX.CodeO c q)
section
variable {X
      : Cx} {pins : List (Addr × Obj)} {σ : L2.St} {H : Hp} {s : Shared}
/-- the making: the table of the maker alone may change -/
theorem lam_new {O : List Addr} {c P : Addr} {params : Arguments} {body : Expr} {scope : Scope} {pos : Pos} {E : Value → Shared → Prop} {Q : Value → Shared → Prop} (I : Inv X pins σ H s) (tb : LamX.TabB X.base X.mg c P) (code : X.env.code = .ref c)
    (al : ∀ a ∈ O, H a ≠ none) (tab : TabAt O H P (X.env.qual ++ "<lambda>")) (dfl : defaultsOf params X.env = ([], [])) (free : ∀ y ∈ scope.names, y.2 = .free → ∃ c, X.env.cells.lookup y.1 = some c)
    (h : ∀ (f c' : Addr) (pm ctv : Value) (H1 : Hp) (s' : Shared), Inv X pins σ H1 s' → (∀ b o, b ≠ P → H b = some o → H1 b = some o) → TabAt O H1 P (X.env.qual ++ "<lambda>") →
      s'.heap.get? f = some (PySem.W.kla_obj "<lambda>" (X.env.qual ++ "<lambda>") params body scope (cloFrom X.env.cells scope.names []) pm c' ctv) → H1 f = none → f ∉ frs X.stack → hide O H1 c' = some (LamX.CodeO c' (X.env.qual ++ "<lambda>")) → Q (.ref f) s') :
    wpAny (model X.prog X.w) X.A
          (eval (.Lambda params body scope pos) X.env) Q E s := by
  obtain ⟨ps, atP, ok, known⟩ := tab
  have bltn : s.heap.BuiltinsAt X.mg P := tb.bm.keeps I.bk
  have rawP : s.heap.get? P = some { cls := .none, data := .fields ps } := I.hok P _ atP
  have noFrame : ∀ a, s.heap.objs.size ≤ a → a ∉ frs X.stack := fun a ha z => (List.mem_cons.mp (I.stkSub _ z)).elim
    (fun e => absurd I.lt (by rw [← e]; exact Nat.not_lt.mpr ha)) (I.nofs ha)
  refine PySem.W.kla_eval dfl ?_
  cases found : codeAmong pos ps.toList with
  | some cv =>
    obtain ⟨c', rfl, co⟩ := known pos cv found
    refine PySem.W.kla_makeFunctionHit (mg := X.mg) (c := c) (P := P) (ps := ps) (closure_ok free) I.ok.glob (I.mod.glob.keeps I.bk) code (tb.code.keeps I.bk) rawP ok found bltn fun ctv h' tk hx hsz => ?_
    (have I1 : Inv X pins σ H { s with heap := h'.push (PySem.W.kla_obj "<lambda>" (X.env.qual ++ "<lambda>") params body scope (cloFrom X.env.cells scope.names []) ((X.mg "__name__").getD .none) c' ctv), toks := tk } := I.kept fun b o e => Heap.get?_push_of_some _ (hx b o e))
    exact h h'.objs.size c' _ ctv H _ I1 (fun _ _ _ e => e) ⟨ps, atP, ok, known⟩ (Heap.get?_push_size _ rfl) (I.hok.fresh hsz) (noFrame _ hsz) co
  | none =>
    refine PySem.W.kla_makeFunction (mg := X.mg) (c := c) (P := P) (ps := ps) (closure_ok free) I.ok.glob (I.mod.glob.keeps I.bk) code (tb.code.keeps I.bk) rawP ok found tb.gP bltn fun c' ctv h' tk hx hge hlt rec htb => ?_
    obtain ⟨c2, oc, vs, t, e2, r1, r2, r3⟩ := rec
    cases e2
    have big : s.heap.objs.size ≤ h'.objs.size := Nat.le_trans hge (Nat.le_of_lt hlt)
    have newC : H c' = none := I.hok.fresh hge
    have nPc : P ≠ c' := ne_of_none atP newC
    have I1 := LamX.inv_table (t' := tk) (more := #[rawInt pos.line, rawInt pos.col, .ref c']) (h' := h'.push (PySem.W.kla_obj "<lambda>" (X.env.qual ++ "<lambda>") params body scope (cloFrom X.env.cells scope.names []) ((X.mg "__name__").getD .none) c' ctv)) I atP
      (fun b o hb e => Heap.get?_push_of_some _ (hx b o hb e)) (Heap.get?_push_of_some _ htb) hge ⟨oc, vs, t, Heap.get?_push_of_some _ r1, r2, r3⟩
    have keep : ∀ b o, b ≠ P → H b = some o → upd (upd H P (.tbl (ps ++ #[rawInt pos.line, rawInt pos.col, .ref c']))) c' (LamX.CodeO c' (X.env.qual ++ "<lambda>")) b = some o := fun b o n e => by
      rw [upd_ne (ne_of_none e newC), upd_ne n]
      exact e
    have seen : hide O (upd (upd H P (.tbl (ps ++ #[rawInt pos.line, rawInt pos.col, .ref c']))) c' (LamX.CodeO c' (X.env.qual ++ "<lambda>"))) c' = some (LamX.CodeO c' (X.env.qual ++ "<lambda>")) :=
      hide_some.mpr ⟨fun z => al c' z newC, upd_same⟩
    refine h h'.objs.size c' _ ctv _ _ I1 keep ⟨ps ++ #[rawInt pos.line, rawInt pos.col, .ref c'], ?_, ?_, fun p' cv hcv => ?_⟩ (Heap.get?_push_size _ rfl) ?_ (noFrame _ big) seen
    · rw [upd_ne nPc, upd_same]
    · rw [Array.toList_append]
      exact PySem.TriplesOk_snoc _ _ _ _ ok
    · rw [Array.toList_append] at hcv
      rcases LamX.among_app _ ok hcv with z | z
      · obtain ⟨c0, e1, e2⟩ := known p' cv z
        obtain ⟨n, e3⟩ := hide_some.mp e2
        exact ⟨c0, e1, hide_some.mpr ⟨n, keep _ _ (fun z => by rw [z, atP] at e3; exact LamX.codeO_ne _ (Option.some.inj e3).symm) e3⟩⟩
      · exact ⟨c', z, seen⟩
    · rw [upd_ne (Nat.ne_of_gt hlt), upd_ne (Nat.ne_of_gt (Nat.lt_of_lt_of_le (Heap.lt_size rawP) big))]
      exact I.hok.fresh big
end
/-! the call -/
/-- the value, without the state -/
def valM (m : M (D × S)) : M D := match m with
  | some (.ok (d, _)) => ok d
  | some (.ex e _) => some (.ex e [])
  | none => none
open Classical in
/-- the call of the lambda that slot i holds; r: what it answers -/
noncomputable def dAct (i : Nat) (x : D) (r : M D) : S → M (D × S) := fun s => if s[i]? = some (.val x) then bdC r s fun d => ok (d, s) else none
def capAt : List Nat → List D → Nat → Sl
  | i :: ix, d :: ds, n => if n = i then .val d else capAt ix ds n
  | _, _, _ => .un
theorem capAt_val : ∀ {ix : List Nat} {ds : List D} {n : Nat}, capAt ix ds n = .un ∨ ∃ (j : Nat) (d : D), ix[j]? = some n ∧ ds[j]? = some d ∧ capAt ix ds n = .val d
  | [], _, _ => .inl rfl
  | _ :: _, [], _ => .inl rfl
  | i :: ix, d :: ds, n => by
    unfold capAt
    by_cases h : n = i
    · rw [if_pos h]
      exact .inr ⟨0, d, by rw [h]; rfl, rfl, rfl⟩
    · rw [if_neg h]
      rcases capAt_val (ix := ix) (ds := ds) (n := n) with z | ⟨j, d, h1, h2, h3⟩
      · exact .inl z
      · exact .inr ⟨j + 1, d, h1, h2, h3⟩
/-- the state in which the lambda's body is read: the captured slots -/
def capS (m : Nat) (ix : List Nat) (ds : List D) : S := (List.range m).map (capAt ix ds)
theorem capS_val {m : Nat} {ix : List Nat} {ds : List D} {n : Nat} {x : Sl} (e : (capS m ix ds)[n]? = some x) : x = .un ∨ ∃ (j : Nat) (d : D), ix[j]? = some n ∧ ds[j]? = some d ∧ x = .val d := by
  unfold capS at e
  rw [List.getElem?_map] at e
  cases q : (List.range m)[n]? with
  | none => (rw [q] at e; cases e)
  | some n' =>
    have hn : n' = n := by
      obtain ⟨h1, h2⟩ := List.getElem?_eq_some_iff.mp q
      rw [← h2, List.getElem_range]
    rw [q, hn, Option.map_some] at e
    cases e
    exact capAt_val
/-- the values at the captured slots -/
def Capt (σ : L2.St) (ix : List Nat) (vs : List V) : Prop := ∀ j n : Nat, ix[j]? = some n → ∃ v : V, σ[n]? = some (some v) ∧ vs[j]? = some v
theorem wl_cap {K : PySem.W.Frag} {cl : Cl} {O : List Addr} {H : Hp} {σ : L2.St} {m : Nat} {ix : List Nat} {vs : List V} {ds : List D} (hl : σ.length = m) (al : ∀ a ∈ O, H a ≠ none) (c : Capt σ ix vs) (r : RpA K cl (hide O H) vs ds) :
    Wl K cl ⟨O, [], 0, H⟩ [] (capS m ix ds) σ H := by
  refine ⟨fun _ _ _ e => e, fun a h => by simp at h, fun a h => al a (by simpa using h), fun a h => by simp at h, fun a h => by simp at h, ⟨fun i d e => ?_, fun i d e => ?_, fun i d e => ?_, fun i j d d' a e => ?_, fun i j d d' e => ?_, by unfold capS; rw [List.length_map, List.length_range]; exact hl, .none fun i b d e => ?_⟩⟩
  · rcases capS_val e with z | ⟨j, d2, h1, h2, h3⟩
    · cases z
    · cases h3
      obtain ⟨v, e1, e2⟩ := c j i h1
      obtain ⟨v', e3, rp⟩ := r.get j h2
      rw [e2] at e3
      cases e3
      exact ⟨v, e1, rp⟩
  all_goals (rcases capS_val e with z | ⟨j, d2, h1, h2, h3⟩ <;> first | cases z | cases h3)
section
variable {X : Cx} {pins : List (Addr × Obj)} {σ : L2.St} {H : Hp} {s : Shared} {cl : Cl} {wx : WX}
/-- the lambda's call, read in the frame of the def that got it -/
theorem act_read {K : PySem.W.Frag} {i m : Nat} {f c' : Addr} {q : Str} {ix : List Nat} {vs : List V} {ds : List D} {fE : S → M (D × S)} {σZ : L2.St} {HZ : Hp} {Q : VK} (hl : σ.length = m) (c : Capt σ ix vs)
    (h : TEof K cl wx (dAct i (.fn f c' q vs ds) (valM (fE (capS m ix ds)))) σZ HZ Q) :
    σZ[i]? = some (some (.ref f)) ∧ HZ c' = some (LamX.CodeO c' q) ∧ TEof K cl (wxE (WE wx σZ)) fE σ HZ Q := by
  obtain ⟨w, L, sd, W, h⟩ := h
  unfold dAct at h
  split at h
  rotate_left
  · exact h.elim
  · next e =>
    obtain ⟨v, e1, rp⟩ := W.st.val i _ e
    cases rp with
    | fn hc r =>
      refine ⟨e1, (hide_some.mp hc).2, ⟨L ++ w.O0, [], 0, HZ⟩, [], _, wl_cap hl W.alive c r, ?_⟩
      match fE (capS m ix ds), h with
      | none, h => exact h.elim
      | some (.ex e s'), h =>
        intro L1 σ1 H1 cls d W1 x
        have sm : Same HZ H1 := fun b o z => W1.keep b o (by simp) z
        exact h L σZ H1 cls d (W.ext sm) (x.mono (hide_sub fun a ha => List.mem_append_right _ ha))
      | some (.ok (d, s')), h =>
        intro v H1 st W1 rp
        have sm : Same HZ H1 := fun b o z => W1.keep b o (by simp) z
        exact h v H1 (.of_same sm) (W.ext sm) (rp.mono (hide_sub fun a ha => List.mem_append_right _ ha))
theorem lam_takes {A : Around} {outer : List Env} {E : XK} {scope : Scope} {f c' : Addr} : Takes (LamX.lamCx X A outer s H E scope f c') (wxE E) := takes_of rfl rfl rfl rfl
abbrev tldCx (X : Cx) (N : List Str) (qg : Str) (sg : Scope) (g : Addr) (cdg : Value) (s : Shared) (H : Hp) (E : XK) (pn : List (Addr × Obj)) (xe : Value → Shared → Prop) : Cx := (cxOf (L2.CX X.prog X.w) X.prog X.w X.K X.mg X.base N qg sg g cdg X.A X.stack s H E).tr pn xe
/-- the lambda's call -/
theorem act_pe {k i m : Nat} {N : List Str} {qg a : Str} {sg scope : Scope} {g f c' : Addr} {cdg pm ctv : Value} {params : Arguments} {body : Expr} {pn : List (Addr × Obj)} {xe : Value → Shared → Prop} {E0 : XK} {p1 p2 : Pos} {ix : List Nat} {vs : List V} {ds : List D} {fE : S → M (D × S)}
    (I : Inv X pins σ H s) (L : LamX.LamS X.env.scope scope) (hf : s.heap.get? f = some (PySem.W.kla_obj "<lambda>" (X.env.qual ++ "<lambda>") params body scope (cloFrom X.env.cells scope.names []) pm c' ctv)) (hfn : H f = none) (hfr : f ∉ frs X.stack)
    (bind : bindArgs (PySem.W.kla_fn "<lambda>" (X.env.qual ++ "<lambda>") params body scope (cloFrom X.env.cells scope.names []) pm (.ref c') ctv) ⟨[], []⟩ = pure [])
    (tk : Takes (tldCx X N qg sg g cdg s H E0 pn xe) wx) (hg : X.A.guards = some []) (hr : Room (k + 1) (X.A.deeper (envOfC qg sg s.heap.objs.size g cdg)))
    (inner : ∀ (A : Around) (outer : List Env) (s : Shared) (H : Hp) (E : XK), A.guards = some [] → Room k (A.deeper (LamX.lamEnv X scope s.heap.objs.size f c')) → Takes (LamX.lamCx X A outer s H E scope f c') (wxE E) → PE (LamX.lamCx X A outer s H E scope f c') body (TEof X.K cl (wxE E) fE))
    (hN : N[i]? = some a) (hv : Vis sg a) (hl : σ.length = m) (cap : Capt σ ix vs) (hd : (a == ("__debug__" : Str)) = false) (hcd : (a == ("__classdict__" : Str)) = false) :
    PE (tldCx X N qg sg g cdg s H E0 pn xe) (.Call (.Name a p1) [] [] p2) (TEof X.K cl wx (dAct i (.fn f c' (X.env.qual ++ "<lambda>") vs ds) (valM (fE (capS m ix ds))))) := by
  (refine ⟨fun pinsZ sZ σZ HZ Q IZ h => ?_⟩)
  obtain ⟨atI, atC, told⟩ := act_read hl cap h
  refine wpAny_Call_Name_kw (thn ((pe_var (pos := p1) (i := i) hN hv hd hcd).run pinsZ sZ σZ HZ (fun v H1 => v = .ref f ∧ H1 = HZ) IZ ⟨.ref f, atI, rfl, rfl⟩) fun u s1 ⟨v, H1, I1, rv, ev, eH⟩ => ?_)
  subst ev
  rw [eH] at I1
  obtain rfl : u = Value.ref f := rv
  have raw : s1.heap.get? f = some (PySem.W.kla_obj "<lambda>" (X.env.qual ++ "<lambda>") params body scope (cloFrom X.env.cells scope.names []) pm c' ctv) := I1.base.keep f _ hf hfn hfr (fun z => nomatch (show f ∈ ([] : List Addr) from z))
  (have un : Un (frs X.stack) [] H HZ s.heap s1.heap := I1.base)
  obtain ⟨⟨oc, fs, t, c1, c2, c3⟩, _, _⟩ := I1.hok c' _ atC
  have rc : codeAny (model X.prog X.w) (X.A.deeper (envOfC qg sg s.heap.objs.size g cdg)) (.call (.ref f) ⟨[], []⟩) (CR (L2.CX X.prog X.w) (envOfC qg sg s.heap.objs.size g cdg :: X.stack) X.prog X.w HZ s1 Q (WE wx σZ)) s1 := by
    refine PySem.W.kla_callFunE hr.depth raw rfl L.co L.gen rfl ⟨c', oc, fs, t, rfl, c1, c2, c3⟩ ?_
    rw [bind]
    (refine wpAny_pure (wpAny_newFunctionEnv (fun y hy => (L.own y hy).2) (fun y hy => absurd hy (by simp)) (fun h₁ hns hsb => ⟨I1.nolimit.fresh _ hsb, ?_⟩) L.kind))
    have J := LamX.lam_start2 (E := WE wx σZ) (f := f) (c' := c') (tk := s1.toks + ([] : List (Str × Value)).length) I L I1.env0 hr.hd un hns fun b o e => hsb.extBut b o (Nat.ne_of_lt (Heap.lt_size e)) (Heap.get?_push_of_some _ e)
    refine PySem.W.kla_codeExpr (wpAny_mono ((inner (X.A.deeper (envOfC qg sg s.heap.objs.size g cdg)) _ s1 HZ _ hg (hr.deeper _) lam_takes).run [] _ _ HZ Q J told) (fun v s' hq => ?_) fun e s' hq => hq)
    obtain ⟨w', H', J', r, q⟩ := hq
    exact ⟨w', H', J'.os, J'.bare, J'.base, J'.hok, r, q⟩
  exact PySem.W.callWith_F0 ⟨_, _, _, _, raw⟩ (ran (passAt tk σZ) I1 rc)
end
/-! ### the def that gets the lambda -/
section
variable {P : Program} {w : World} {K : PySem.W.Frag} {mg : Str → Option Value} {base : Heap} {cl : Cl} {k j : Nat} {g : Addr} {fd : FuncData} {p : Str} {T : M D → M D}
/-- what it may lean on: the call of x, in each of its own contexts -/
def Acts (P : Program) (w : World) (K : PySem.W.Frag) (mg : Str → Option Value) (base : Heap) (cl : Cl) (A : Around) (outer : List Env) (s : Shared) (H : Hp) (E : XK) (k : Nat) (p : Str) (x : D) (r : M D) : Prop :=
  ∀ (N : List Str) (qg : Str) (sg : Scope) (g : Addr) (cdg : Value) (i : Nat) (W : WX) (pn : List (Addr × Obj)) (xe : Value → Shared → Prop) (p1 p2 : Pos), N[i]? = some p → Vis sg p → Room (k + 1) (A.deeper (envOfC qg sg s.heap.objs.size g cdg)) →
    Takes ((cxOf (L2.CX P w) P w K mg base N qg sg g cdg A outer s H E).tr pn xe) W → PE ((cxOf (L2.CX P w) P w K mg base N qg sg g cdg A outer s H E).tr pn xe) (.Call (.Name p p1) [] [] p2) (TEof K cl W (dAct i x r))
/-- T: its answer by the lambda's; the lambda's body finds room k -/
structure FnL (P : Program) (w : World) (K : PySem.W.Frag) (mg : Str → Option Value) (base : Heap) (cl : Cl) (k : Nat) (g : Addr) (fd : FuncData) (p : Str) (T : M D → M D) : Prop where
  go : ∀ (A : Around) (outer : List Env) (s : Shared) (H : Hp) (args : Args) (us : List Value) (f c : Addr) (q : Str) (vs : List V) (ds : List D) (r : M D) (O : List Addr) (Q : VK) (E : XK), A.guards = some [] → Room (k + 2) A →
    Env0 P w K mg base A outer s H → BindsTo s fd args ([p].zip us) → Vals [.ref f] us → (∀ a ∈ O, H a ≠ none) → Rp K cl (hide O H) (.ref f) (.fn f c q vs ds) → Acts P w K mg base cl A outer s H E k p (.fn f c q vs ds) r → FinD K cl O H Q E (T r) →
    codeAny (model P w) A (.call (.ref g) args) (CR (L2.CX P w) outer P w H s Q E) s
theorem FnL.mono (F : FnL P w K mg base cl j g fd p T) (h : j ≤ k) : FnL P w K mg base cl k g fd p T :=
  ⟨fun A outer s H args us f c q vs ds r O Q E hg hr e0 b rv al rp ac fin => F.go A outer s H args us f c q vs ds r O Q E hg (hr.mono (Nat.add_le_add_right h 2)) e0 b rv al rp
    (fun N qg sg g cdg i W pn xe p1 p2 hN hv _ tk => ac N qg sg g cdg i W pn xe p1 p2 hN hv ((hr.mono (Nat.le_refl _)).deeper _) tk) fin⟩
theorem okL {x qual : Str} {params : Arguments} {body : List Stmt} {scope : Scope} {dvs : List V} {kws : List (Str × V)} {N : List Str} {F : D → M D → S → M Out} (i : Nat) (D0 : FunD K x qual params body scope dvs kws g fd) (sc : FnScope N [p] scope)
    (law : ∀ (f c : Addr) (q : Str) (vs : List V) (ds : List D) (r : M D), runP N.length (F (.fn f c q vs ds) r) [.fn f c q vs ds] = T r) (hN : N[i]? = some p) (hv : Vis scope p)
    (h : ∀ (cdv : Value) (A : Around) (outer : List Env) (s : Shared) (H : Hp) (E : XK) (x : D) (r : M D), A.guards = some [] → Room (k + 1) (A.deeper (envOfC qual scope s.heap.objs.size g cdv)) →
      Takes (cxOf (L2.CX P w) P w K mg base N qual scope g cdv A outer s H E) (wxE E) → PassesOwn (model P w) (cxOf (L2.CX P w) P w K mg base N qual scope g cdv A outer s H E).A (cxOf (L2.CX P w) P w K mg base N qual scope g cdv A outer s H E).env (cxOf (L2.CX P w) P w K mg base N qual scope g cdv A outer s H E).xe →
      (∀ (W : WX) (pn : List (Addr × Obj)) (xe : Value → Shared → Prop) (p1 p2 : Pos), Takes ((cxOf (L2.CX P w) P w K mg base N qual scope g cdv A outer s H E).tr pn xe) W → PE ((cxOf (L2.CX P w) P w K mg base N qual scope g cdv A outer s H E).tr pn xe) (.Call (.Name p p1) [] [] p2) (TEof K cl W (dAct i x r))) →
      ∃ ts, PSs (cxOf (L2.CX P w) P w K mg base N qual scope g cdv A outer s H E) body (TSof K cl (wxE E) ts (F x r))) : FnL P w K mg base cl k g fd p T := by
  obtain ⟨oc, od, dV, kV, doc, pm, an, cdv, ct, osl, rfl, lk, hcd, _, _⟩ := D0.ex
  refine ⟨fun A outer s H args us f c q vs ds r O Q E hg hr e0 b rv al rp ac fin => ?_⟩
  have hr' : Room (k + 1) (A.deeper (envOfC qual scope s.heap.objs.size g cdv)) := hr.deeper _
  obtain ⟨ts, hb⟩ := h cdv A outer s H E (.fn f c q vs ds) r hg hr' (takes_of rfl rfl rfl rfl) (passes_of rfl) fun W pn xe p1 p2 tk => ac N qual scope g cdv i W pn xe p1 p2 hN hv hr' tk
  obtain ⟨t, h1, h2⟩ := walkP (n := 1) (vs := [.ref f]) (H := H) (Q := Q) hb ⟨rfl, O, [.fn f c q vs ds], al, .cons rp .nil, by rw [law]; exact fin⟩
  exact run_def lk hcd sc hr e0 b rv rfl h1 h2
end
/-! ### told(lambda: e) -/
/-- the values of the captured slots -/
def capD : List Nat → S → Option (List D)
  | [], _ => some []
  | i :: ix, s => match s[i]? with
    | some (.val d) => (capD ix s).map (d :: ·)
    | _ => none
def dLam (iT : Nat) (q : Str) (m : Nat) (ix : List Nat) (fE : S → M (D × S)) (T : M D → M D) : S → M (D × S) := fun s => match ownD s[iT]? with
  | some (.tab q') => if q' = q ∧ s.length = m then (match capD ix s with
    | some ds => bdC (T (valM (fE (capS m ix ds)))) s fun d => ok (d, s)
    | none => none) else none
  | _ => none
theorem capD_of {K : PySem.W.Frag} {cl : Cl} {w : Wf} {L : List Addr} {sd : S} {σ : L2.St} {H : Hp} (W : Wl K cl w L sd σ H) : ∀ {ix : List Nat} {ds : List D}, capD ix sd = some ds → ∃ vs, Capt σ ix vs ∧ RpA K cl (hide (L ++ w.O0) H) vs ds
  | [], ds, e => by
    cases e
    exact ⟨[], fun j n z => by simp at z, .nil⟩
  | i :: ix, ds, e => by
    unfold capD at e
    split at e
    · next d hd =>
      cases q : capD ix sd with
      | none => (rw [q] at e; cases e)
      | some ds' =>
        rw [q] at e
        cases e
        obtain ⟨vs, c, r⟩ := capD_of W q
        obtain ⟨v, h1, h2⟩ := W.st.val i d hd
        refine ⟨v :: vs, fun j n z => ?_, .cons h2 r⟩
        cases j with
        | zero =>
          cases z
          exact ⟨v, h1, rfl⟩
        | succ j => exact c j n z
    · cases e
theorem putD_self {s : S} {i : Nat} {d : D} (h : ownD s[i]? = some d) : putD s i d = s := by
  have self : ∀ x, s[i]? = some x → s.set i x = s := fun x q => by
    obtain ⟨hi, e⟩ := List.getElem?_eq_some_iff.mp q
    rw [← e]
    exact List.set_getElem_self hi
  unfold putD
  match q : s[i]?, h with
  | some (.own d'), h =>
    cases h
    exact self _ q
  | some (.io d'), h =>
    cases h
    exact self _ q
section
variable {X : Cx} {cl : Cl} {wx : WX} {k m : Nat} {g c P : Addr} {fd : FuncData} {x p q : Str} {T : M D → M D} {params : Arguments} {body : Expr} {scope : Scope} {lpos p1 pos : Pos} {fE : S → M (D × S)}
theorem d_lam (iT : Nat) (ix : List Nat) (F : FnL X.prog X.w X.K X.mg X.base cl k g fd p T) (hgd : X.A.guards = some []) (hr : Room (k + 2) X.A) (hm : X.mg x = some (.ref g)) (hk : PySem.W.keepIn X.K (.ref g) = true) (hb : Binds X.K fd [p] [])
    (tb : LamX.TabB X.base X.mg c P) (code : X.env.code = .ref c) (hq : X.env.qual ++ "<lambda>" = q) (hcl : ∃ ns, cl q = some (P, ns)) (L0 : LamX.LamS X.env.scope scope) (dfl : defaultsOf params X.env = ([], []))
    (bind : ∀ (q : Str) (cl : List (Str × Addr)) (pm cv ctv : Value), bindArgs (PySem.W.kla_fn "<lambda>" q params body scope cl pm cv ctv) ⟨[], []⟩ = pure [])
    (inner : ∀ (A : Around) (outer : List Env) (s : Shared) (H : Hp) (E : XK) (f c' : Addr), A.guards = some [] → Room k (A.deeper (LamX.lamEnv X scope s.heap.objs.size f c')) → Takes (LamX.lamCx X A outer s H E scope f c') (wxE E) → PE (LamX.lamCx X A outer s H E scope f c') body (TEof X.K cl (wxE E) fE))
    (hg : Gl X x := by rfl) (hdb : (x == ("__debug__" : Str)) = false := by decide) (hd : (p == ("__debug__" : Str)) = false := by decide) (hcd : (p == ("__classdict__" : Str)) = false := by decide) (tk : Takes X wx := by first | assumption | exact takes_no) :
    PE X (.Call (.Name x p1) [.Lambda params body scope lpos] [] pos) (TEof X.K cl wx (dLam iT q m ix fE T)) := by
  (refine ⟨fun pins s σ H Q I h => ?_⟩)
  obtain ⟨w, L, sd, W, h⟩ := h
  unfold dLam at h
  split at h
  rotate_left
  · exact h.elim
  next q' ht =>
  split at h
  rotate_left
  · exact h.elim
  next hc =>
  obtain ⟨rfl, hl⟩ := hc
  split at h
  rotate_left
  · exact h.elim
  next ds hds =>
  obtain ⟨a, hσ, ha, ⟨ns, hca⟩, tab⟩ := W.atD ht
  obtain ⟨ns', hcP⟩ := hcl
  have eP : a = P := by
    rw [hcP] at hca
    cases hca
    rfl
  subst eP
  subst hq
  obtain ⟨vs, cap, rv⟩ := capD_of W hds
  have alP : H a ≠ none := by
    obtain ⟨ps, e, _⟩ := tab
    rw [e]
    simp
  (refine wpAny_Call_Name_kw (ld_glob I hg hm ?_ hdb))
  (refine PySem.W.callWith_K (h₀ := X.base) I.ok.mod.kin hk ?_ (by rfl) (by rfl))
  (show wpAny _ _ (spliced ((false, eval (.Lambda params body scope lpos) X.env) :: backTo pos (starEach [] X.env))) _ _ s)
  refine Calls.spliced_cons (lam_new I tb code W.alive tab dfl (L0.has I.ok) fun f c' pm ctv H1 s1 I1 keep tab1 hf hfn hfr hco => ?_)
  (refine Calls.spliced_nil ⟨I1.kIn, ?_⟩)
  obtain ⟨W1, st1⟩ := W.wrote (d1 := .tab (X.env.qual ++ "<lambda>")) ht hσ ha alP keep ⟨⟨ns, hca⟩, tab1⟩
  rw [putD_self ht] at W1
  have sm : Same (hide (L ++ w.O0) H) (hide (L ++ w.O0) H1) := fun b o e => by
    obtain ⟨n, e⟩ := hide_some.mp e
    refine hide_some.mpr ⟨n, keep b o (fun z => n ?_) e⟩
    rw [z]
    exact ha.elim (List.mem_append_left _) fun y => List.mem_append_right _ (W.sub _ y.2)
  refine ran (passAt tk σ) I1 (F.go X.A X.stack s1 H1 ⟨[.ref f], []⟩ [.ref f] f c' (X.env.qual ++ "<lambda>") vs ds (valM (fE (capS m ix ds))) (L ++ w.O0) Q (WE wx σ) hgd hr I1.env0 (hb s1 [.ref f] I1.kIn rfl) (.cons rfl .nil) W1.alive (.fn hco (rv.mono sm)) ?_ (h.finC st1 W1))
  intro N qg sg g cdg i W' pn xe p3 p4 hN hv hr' tk'
  exact act_pe I1 L0 hf hfn hfr (bind _ _ _ _ _) tk' hgd hr' (fun A outer s H E hg2 hr2 tk2 => inner A outer s H E f c' hg2 hr2 tk2) hN hv (W.st.len.trans hl) cap hd hcd
end
end Dt
namespace Dt
open L2 PySem PySem.Spec PyProof.Rows
/-! ### defs whose run may change tables of code objects -/
section
variable {X : Cx} {pins : List (Addr × Obj)} {σ σ' : L2.St} {H : Hp} {s : Shared}
/-- what stands at names that the code can't see is of no matter -/
theorem inv_unseen (I : Inv X pins σ H s) (l : σ'.length = σ.length) (h : ∀ (i : Nat) (y : Str), X.N[i]? = some y → Vis X.env.scope y → σ'[i]? = σ[i]?) : Inv X pins σ' H s := by
  obtain ⟨a1, a2, a3, a4, ⟨m, n, lo⟩, a6, a7, a8, a9, a10, a11⟩ := I
  exact ⟨a1, a2, a3, a4, ⟨m, n, fun i y v e1 e2 e3 => lo i y v e1 (by rw [← h i y e1 e3]; exact e2) e3⟩, a6, a7, a8, a9, a10, l.trans a11⟩
end
/-- tabs: their addresses, the names of the code objects in them -/
def spB (K : PySem.W.Frag) (cl : Cl) (n : Nat) (tabs : List (Addr × Str)) (f : FnD) : Sp := fun vs H Q E => vs.length = n ∧ ∃ (O : List Addr) (ds : List D), (∀ a ∈ O, H a ≠ none) ∧ (∀ p ∈ tabs, p.1 ∈ O ∧ TabAt O H p.1 p.2) ∧ RpA K cl (hide O H) vs ds ∧
  (match f ds with
    | some (.ok r) => ∀ v H', (∀ b o, b ∉ tabs.map (·.1) → H b = some o → H' b = some o) → (∀ p ∈ tabs, TabAt O H' p.1 p.2) → Rp K cl (hide O H') v r → Q v H'
    | _ => False)
def tabsOk : List Str → S → Bool
  | [], [] => true
  | q :: qs, .own (.tab q') :: s => q == q' && tabsOk qs s
  | _, _ => false
theorem tabsOk_get : ∀ {qs : List Str} {s : S}, tabsOk qs s = true → ∀ (j : Nat) (q : Str), qs[j]? = some q → s[j]? = some (.own (.tab q))
  | [], _, _, j, q, e => by simp at e
  | q0 :: qs, .own (.tab q') :: s, h, j, q, e => by
    unfold tabsOk at h
    obtain ⟨h1, h2⟩ := Bool.and_eq_true_iff.mp h
    cases j with
    | zero =>
      cases e
      rw [eq_of_beq h1]
      rfl
    | succ j => exact tabsOk_get h2 j q e
  | q0 :: qs, [], h, j, q, e => by cases h
  | q0 :: qs, .un :: s, h, j, q, e => by cases h
  | q0 :: qs, .val _ :: s, h, j, q, e => by cases h
  | q0 :: qs, .io _ :: s, h, j, q, e => by cases h
  | q0 :: qs, .tre _ _ :: s, h, j, q, e => by cases h
  | q0 :: qs, .own .non :: s, h, j, q, e => by cases h
  | q0 :: qs, .own (.bl _) :: s, h, j, q, e => by cases h
  | q0 :: qs, .own (.int _) :: s, h, j, q, e => by cases h
  | q0 :: qs, .own (.str _) :: s, h, j, q, e => by cases h
  | q0 :: qs, .own (.lst _) :: s, h, j, q, e => by cases h
  | q0 :: qs, .own (.tup _) :: s, h, j, q, e => by cases h
  | q0 :: qs, .own (.obj _ _) :: s, h, j, q, e => by cases h
  | q0 :: qs, .own (.dic _ _) :: s, h, j, q, e => by cases h
  | q0 :: qs, .own (.reg _) :: s, h, j, q, e => by cases h
  | q0 :: qs, .own (.err _ _) :: s, h, j, q, e => by cases h
  | q0 :: qs, .own (.cls _) :: s, h, j, q, e => by cases h
  | q0 :: qs, .own (.fn _ _ _ _ _) :: s, h, j, q, e => by cases h
  | q0 :: qs, .own (.tz _) :: s, h, j, q, e => by cases h
  | q0 :: qs, .own (.box _) :: s, h, j, q, e => by cases h
/-- m: the names of the def itself -/
def runB (m : Nat) (qs : List Str) (F : S → M Out) : FnD := fun ds => bd (nx (F ((ds.map Sl.val ++ List.replicate (m - ds.length) Sl.un) ++ qs.map fun q => .own (.tab q)))) fun (o : Out) => match o with
  | .nx s => if tabsOk qs (s.drop m) = true then ok .non else none
  | .rt d s => if tabsOk qs (s.drop m) = true then ok d else none
  | _ => none
section
variable {K : PySem.W.Frag} {cl : Cl} {n : Nat} {H : Hp} {vs : List V} {ds : List D} {O : List Addr} {tabs : List (Addr × Str)}
open Classical in
/-- the heap, the tables out of sight -/
noncomputable def offH (tabs : List (Addr × Str)) (H : Hp) : Hp := fun b => if b ∈ tabs.map (·.1) then none else H b
theorem offH_some {b : Addr} {o : HO} : offH tabs H b = some o ↔ b ∉ tabs.map (·.1) ∧ H b = some o := by
  unfold offH
  by_cases h : b ∈ tabs.map (·.1)
  · rw [if_pos h]
    exact ⟨fun z => (nomatch z), fun z => absurd h z.1⟩
  · rw [if_neg h]
    exact ⟨fun z => ⟨h, z⟩, fun z => z.2⟩
open Classical in
noncomputable def offO (tabs : List (Addr × Str)) (O : List Addr) : List Addr := O.filter fun b => decide (b ∉ tabs.map (·.1))
theorem mem_offO {b : Addr} : b ∈ offO tabs O ↔ b ∈ O ∧ b ∉ tabs.map (·.1) := by
  unfold offO
  rw [List.mem_filter]
  simp
theorem tre_none {s : S} {qs : List Str} : ∀ {ds : List D} {k : Nat} {i : Nat} {b : Nat} {d : D}, ((ds.map Sl.val ++ List.replicate k Sl.un) ++ qs.map fun q => Sl.own (.tab q))[i]? ≠ some (.tre b d) := by
  intro ds k i b d e
  have := List.mem_of_getElem? e
  simp at this
theorem wl_startB (N : List Str) (al : ∀ a ∈ O, H a ≠ none) (nd : (tabs.map (·.1)).Nodup) (hcl : ∀ p ∈ tabs, ∃ ns, cl p.2 = some (p.1, ns)) (ht : ∀ p ∈ tabs, p.1 ∈ O ∧ TabAt O H p.1 p.2) (hN : ds.length ≤ N.length) (r : RpA K cl (hide O H) vs ds) :
    Wl K cl ⟨offO tabs O, [], 0, offH tabs H⟩ (tabs.map (·.1)) ((ds.map Sl.val ++ List.replicate (N.length - ds.length) Sl.un) ++ (tabs.map (·.2)).map fun q => .own (.tab q)) (start N vs ++ tabs.map fun p => some (.ref p.1)) H := by
  have W0 := wl_start N al r
  have l0 : (ds.map Sl.val ++ List.replicate (N.length - ds.length) Sl.un).length = N.length := by
    (rw [List.length_append, List.length_map, List.length_replicate])
    omega
  have ls : (start N vs).length = N.length := W0.st.len.trans l0
  have mem : ∀ {b}, b ∈ tabs.map (·.1) ++ offO tabs O → b ∈ O := fun {b} h => by
    rcases List.mem_append.mp h with z | z
    · obtain ⟨p, hp, rfl⟩ := List.mem_map.mp z
      exact (ht p hp).1
    · exact (mem_offO.mp z).1
  have sm : Same (hide O H) (hide (tabs.map (·.1) ++ offO tabs O) H) := hide_sub fun b hb => mem hb
  have lowV : ∀ {i : Nat} {x : Sl}, ((ds.map Sl.val ++ List.replicate (N.length - ds.length) Sl.un) ++ (tabs.map (·.2)).map fun q => Sl.own (.tab q))[i]? = some x →
      (i < N.length ∧ (ds.map Sl.val ++ List.replicate (N.length - ds.length) Sl.un)[i]? = some x) ∨ ∃ (j : Nat) (p : Addr × Str), i = N.length + j ∧ tabs[j]? = some p ∧ x = .own (.tab p.2) := fun {i x} e => by
    by_cases hi : i < N.length
    · rw [List.getElem?_append_left (by rw [l0]; exact hi)] at e
      exact .inl ⟨hi, e⟩
    · rw [List.getElem?_append_right (by rw [l0]; omega), l0, List.map_map, List.getElem?_map] at e
      cases q : tabs[i - N.length]? with
      | none => (rw [q] at e; cases e)
      | some p =>
        rw [q] at e
        cases e
        exact .inr ⟨i - N.length, p, by omega, q, rfl⟩
  have hiσ : ∀ {j : Nat} {p : Addr × Str}, tabs[j]? = some p → (start N vs ++ tabs.map fun p => some (V.ref p.1))[N.length + j]? = some (some (.ref p.1)) := fun {j p} q => by
    rw [List.getElem?_append_right (by rw [ls]; omega), ls, List.getElem?_map, show N.length + j - N.length = j by omega, q]
    rfl
  refine ⟨fun b o _ e => (offH_some.mp e).2, fun a ha => ?_, fun a ha => al a (mem ha), fun a ha z => (mem_offO.mp z).2 ha, fun a h => by simp at h, ⟨fun i d e => ?_, fun i d e => ?_, fun i d e => ?_, fun i j d d' a e e' q q' => ?_, fun i j d d' e => ?_, ?_, .none fun i b d e => ?_⟩⟩
  · have z : offH tabs H a = none := by
      unfold offH
      exact if_pos ha
    exact z
  · rcases lowV e with ⟨hi, z⟩ | ⟨j, p, _, _, z⟩
    · obtain ⟨v, h1, h2⟩ := W0.st.val i d z
      exact ⟨v, by rw [List.getElem?_append_left (by rw [ls]; exact hi)]; exact h1, h2.mono sm⟩
    · cases z
  · rcases lowV e with ⟨hi, z⟩ | ⟨j, p, rfl, hj, z⟩
    · obtain ⟨a, _, h2, _⟩ := W0.st.own i d z
      simp at h2
    · cases z
      have hp := List.mem_of_getElem? hj
      obtain ⟨ps, t1, t2, t3⟩ := (ht p hp).2
      exact ⟨p.1, hiσ hj, List.mem_map.mpr ⟨p, hp, rfl⟩, hcl p hp, ps, t1, t2, fun pos cv z => let ⟨c, y1, y2⟩ := t3 pos cv z; ⟨c, y1, sm _ _ y2⟩⟩
  · rcases lowV e with ⟨hi, z⟩ | ⟨j, p, _, _, z⟩
    · obtain ⟨_, h2, _⟩ := W0.st.io i d z
      simp at h2
    · cases z
  · rcases lowV e with ⟨hi, z⟩ | ⟨k1, p1, rfl, hk1, z⟩
    · obtain ⟨a, _, h2, _⟩ := W0.st.own i d z
      simp at h2
    · rcases lowV e' with ⟨hi, z⟩ | ⟨k2, p2, rfl, hk2, z⟩
      · obtain ⟨a, _, h2, _⟩ := W0.st.own j d' z
        simp at h2
      · rw [hiσ hk1] at q
        rw [hiσ hk2] at q'
        have e1 : p1.1 = a := by cases q; rfl
        have e2 : p2.1 = a := by cases q'; rfl
        have g1 : (tabs.map (·.1))[k1]? = some a := by rw [List.getElem?_map, hk1, ← e1]; rfl
        have g2 : (tabs.map (·.1))[k2]? = some a := by rw [List.getElem?_map, hk2, ← e2]; rfl
        obtain ⟨b1, c1⟩ := List.getElem?_eq_some_iff.mp g1
        obtain ⟨b2, c2⟩ := List.getElem?_eq_some_iff.mp g2
        rcases Nat.lt_trichotomy k1 k2 with z | z | z
        · exact absurd (c1.trans c2.symm) (List.pairwise_iff_getElem.mp nd k1 k2 b1 b2 z)
        · rw [z]
        · exact absurd (c2.trans c1.symm) (List.pairwise_iff_getElem.mp nd k2 k1 b2 b1 z)
  · rcases lowV e with ⟨hi, z⟩ | ⟨j, p, _, _, z⟩
    · obtain ⟨_, h2, _⟩ := W0.st.io i d z
      simp at h2
    · cases z
  · rw [List.length_append, List.length_append, ls, l0, List.length_map, List.length_map, List.length_map]
  · exact tre_none (s := []) e
/-- the body, seen from the entry -/
theorem walkB {N G : List Str} {X : Cx} {body : List Stmt} {ts : List Nat} {F : S → M Out} {Q : VK} {E : XK} (hX : X.N = N ++ G) (hG : G.length = tabs.length) (un : ∀ y ∈ G, ¬ Vis X.env.scope y) (nd : (tabs.map (·.1)).Nodup) (hcl : ∀ p ∈ tabs, ∃ ns, cl p.2 = some (p.1, ns)) (hN : n ≤ N.length)
    (hb : PSs X body (TSof K cl (wxE E) ts F)) (h : spB K cl n tabs (runB N.length (tabs.map (·.2)) F) vs H Q E) : ∃ t, PSs X body t ∧ t { nx := fun _ H' => Q .non H', rt := Q } (start (N ++ G) vs) H := by
  obtain ⟨hn, O, ds, al, ht, r, h⟩ := h
  have ld : ds.length ≤ N.length := by rw [← r.len, hn]; exact hN
  have lv : vs.length ≤ N.length := by rw [hn]; exact hN
  have eσ : start (N ++ G) vs = start N vs ++ List.replicate G.length none := by
    unfold L2.start
    rw [List.length_append, List.append_assoc, List.replicate_append_replicate]
    congr 2
    omega
  have lN : (start N vs).length = N.length := by
    rw [start_len]
    omega
  refine ⟨fun D σ H => σ = start (N ++ G) vs ∧ TSof K cl (wxE E) ts F D (start N vs ++ tabs.map fun p => some (V.ref p.1)) H, ⟨fun pins s σ H D I ⟨z, q⟩ => ?_⟩, rfl, ?_⟩
  · subst z
    refine hb.run pins s _ H D (inv_unseen I ?_ fun i y e v => ?_) q
    · rw [eσ, List.length_append, List.length_append, List.length_map, List.length_replicate, hG]
    · rw [hX] at e
      have hi : i < N.length := by
        by_cases hi : i < N.length
        · exact hi
        · rw [List.getElem?_append_right (by omega)] at e
          exact absurd v (un y (List.mem_of_getElem? e))
      rw [eσ, List.getElem?_append_left (by rw [lN]; exact hi), List.getElem?_append_left (by rw [lN]; exact hi)]
  · refine ⟨_, _, _, wl_startB N al nd hcl ht ld r, ?_⟩
    have fin : ∀ {L' : List Addr} {s : S} {σ' : L2.St} {H' : Hp}, Wl K cl ⟨offO tabs O, [], 0, offH tabs H⟩ L' s σ' H' → tabsOk (tabs.map (·.2)) (s.drop N.length) = true →
        (∀ b o, b ∉ tabs.map (·.1) → H b = some o → H' b = some o) ∧ (∀ p ∈ tabs, TabAt O H' p.1 p.2) ∧ Same (hide (L' ++ offO tabs O) H') (hide O H') := fun {L' s σ' H'} W tk => by
      have own : ∀ p ∈ tabs, p.1 ∈ L' ∧ TabAt (L' ++ offO tabs O) H' p.1 p.2 := fun p hp => by
        (obtain ⟨j, hj⟩ := List.mem_iff_getElem?.mp hp)
        have e := tabsOk_get tk j p.2 (by rw [List.getElem?_map, hj]; rfl)
        rw [List.getElem?_drop] at e
        obtain ⟨a, _, h2, ⟨ns, k1⟩, t⟩ := W.st.own _ _ e
        obtain ⟨ns', k2⟩ := hcl p hp
        rw [k2] at k1
        cases k1
        exact ⟨h2, t⟩
      have sm : Same (hide (L' ++ offO tabs O) H') (hide O H') := hide_sub fun b hb => by
        by_cases z : b ∈ tabs.map (·.1)
        · obtain ⟨p, hp, rfl⟩ := List.mem_map.mp z
          exact List.mem_append_left _ (own p hp).1
        · exact List.mem_append_right _ (mem_offO.mpr ⟨hb, z⟩)
      refine ⟨fun b o n e => W.keep b o (by simp) (offH_some.mpr ⟨n, e⟩), fun p hp => ?_, sm⟩
      obtain ⟨ps, t1, t2, t3⟩ := (own p hp).2
      exact ⟨ps, t1, t2, fun pos cv z => let ⟨c, y1, y2⟩ := t3 pos cv z; ⟨c, y1, sm _ _ y2⟩⟩
    unfold runB at h
    match (F ((ds.map Sl.val ++ List.replicate (N.length - ds.length) Sl.un) ++ (tabs.map (·.2)).map fun q => Sl.own (.tab q)) : M Out), h with
    | none, h => exact h.elim
    | some (.ex _ _), h => exact h.elim
    | some (.ok (.nx s)), h =>
      intro L' σ' H' st W ag
      have h : (match (if tabsOk (tabs.map (·.2)) (s.drop N.length) = true then ok D.non else none : M D) with
        | some (.ok r) => ∀ v H', (∀ b o, b ∉ tabs.map (·.1) → H b = some o → H' b = some o) → (∀ p ∈ tabs, TabAt O H' p.1 p.2) → Rp K cl (hide O H') v r → Q v H'
        | _ => False) := h
      by_cases c : tabsOk (tabs.map (·.2)) (s.drop N.length) = true
      · rw [if_pos c] at h
        obtain ⟨f1, f2, _⟩ := fin W c
        exact h .non H' f1 f2 .non
      · rw [if_neg c] at h
        exact h.elim
    | some (.ok (.rt d s)), h =>
      intro L' σ' H' v st W rp
      have h : (match (if tabsOk (tabs.map (·.2)) (s.drop N.length) = true then ok d else none : M D) with
        | some (.ok r) => ∀ v H', (∀ b o, b ∉ tabs.map (·.1) → H b = some o → H' b = some o) → (∀ p ∈ tabs, TabAt O H' p.1 p.2) → Rp K cl (hide O H') v r → Q v H'
        | _ => False) := h
      by_cases c : tabsOk (tabs.map (·.2)) (s.drop N.length) = true
      · rw [if_pos c] at h
        obtain ⟨f1, f2, f3⟩ := fin W c
        exact h v H' f1 f2 (rp.mono f3)
      · rw [if_neg c] at h
        exact h.elim
    | some (.ok (.rf d s)), h => exact h.elim
    | some (.ok (.bk s)), h => exact h.elim
    | some (.ok (.ct s)), h => exact h.elim
end
/-! the call of such a def -/
section
variable {K : PySem.W.Frag} {cl : Cl} {w : Wf} {L : List Addr} {sd : S} {σ : L2.St} {H H' : Hp} {tabs : List (Addr × Str)}
/-- tables in one's own slots have grown -/
theorem Wl.retab (W : Wl K cl w L sd σ H) (sl : ∀ p ∈ tabs, ∃ i : Nat, ownD sd[i]? = some (.tab p.2)) (hcl : ∀ p ∈ tabs, ∃ ns, cl p.2 = some (p.1, ns)) (kp : ∀ b o, b ∉ tabs.map (·.1) → H b = some o → H' b = some o) (tb : ∀ p ∈ tabs, TabAt (L ++ w.O0) H' p.1 p.2) :
    Wl K cl w L sd σ H' ∧ Step w L H L H' := by
  have root : ∀ p ∈ tabs, ∃ i : Nat, (sd[i]? = some (.own (.tab p.2)) ∧ p.1 ∈ L ∧ σ[i]? = some (some (.ref p.1))) ∨ (sd[i]? = some (.io (.tab p.2)) ∧ p.1 = w.a0 ∧ p.1 ∈ w.I) := fun p hp => by
    obtain ⟨i, hi⟩ := sl p hp
    obtain ⟨ns', k2⟩ := hcl p hp
    match q : sd[i]?, hi with
    | some (.own d), hi =>
      cases hi
      obtain ⟨a, h1, h2, ⟨ns, k1⟩, _⟩ := W.st.own i _ q
      rw [k2] at k1
      cases k1
      exact ⟨i, .inl ⟨q, h2, h1⟩⟩
    | some (.io d), hi =>
      cases hi
      obtain ⟨h1, h2, ⟨ns, k1⟩, _⟩ := W.st.io i _ q
      rw [k2] at k1
      have e : p.1 = w.a0 := congrArg Prod.fst (Option.some.inj k1)
      exact ⟨i, .inr ⟨q, e, by rw [e]; exact h2⟩⟩
  have hid : ∀ b, b ∈ tabs.map (·.1) → b ∈ L ∨ b ∈ w.I := fun b hb => by
    obtain ⟨p, hp, rfl⟩ := List.mem_map.mp hb
    obtain ⟨i, ⟨_, h, _⟩ | ⟨_, _, h⟩⟩ := root p hp
    · exact .inl h
    · exact .inr h
  have sm : Same (hide (L ++ w.O0) H) (hide (L ++ w.O0) H') := fun b o e => by
    obtain ⟨n, e⟩ := hide_some.mp e
    refine hide_some.mpr ⟨n, kp b o (fun z => n ?_) e⟩
    exact (hid b z).elim (List.mem_append_left _) fun y => List.mem_append_right _ (W.sub _ y)
  have alv : ∀ b, H b ≠ none → H' b ≠ none := fun b h => by
    by_cases z : b ∈ tabs.map (·.1)
    · obtain ⟨p, hp, rfl⟩ := List.mem_map.mp z
      obtain ⟨ps, e, _⟩ := tb p hp
      rw [e]
      simp
    · cases q : H b with
      | none => exact absurd q h
      | some o =>
        rw [kp b o z q]
        simp
  have same : ∀ {b}, b ∉ tabs.map (·.1) → H b ≠ none → H' b = H b := fun {b} n h => by
    cases q : H b with
    | none => exact absurd q h
    | some o => exact kp b o n q
  refine ⟨⟨fun b o n e => ?_, W.fresh, fun a ha => alv a (W.alive a ha), W.disj, W.sub, ⟨fun i d e => ?_, fun i d e => ?_, fun i d e => ?_, W.st.inj, W.st.ioj, W.st.len, W.st.tr.same sm rfl fun x hx n1 n2 => ⟨same (fun z => ?_) ?_, hx⟩⟩⟩,
    ⟨fun b o h1 h2 e => kp b o (fun z => (hid b z).elim h1 h2) e, alv, fun _ h => .inl h⟩⟩
  · refine kp b o (fun z => ?_) (W.keep b o n e)
    rcases hid b z with y | y
    · rw [W.fresh b y] at e
      cases e
    · exact n y
  · obtain ⟨v, h1, h2⟩ := W.st.val i d e
    exact ⟨v, h1, h2.mono sm⟩
  · obtain ⟨a, h1, h2, h3⟩ := W.st.own i d e
    refine ⟨a, h1, h2, ?_⟩
    by_cases z : a ∈ tabs.map (·.1)
    · obtain ⟨p, hp, rfl⟩ := List.mem_map.mp z
      obtain ⟨j, ⟨g1, g2, g3⟩ | ⟨g1, g2, g3⟩⟩ := root p hp
      · obtain rfl := W.st.inj i j d _ p.1 e g1 h1 g3
        rw [g1] at e
        cases e
        exact ⟨hcl p hp, tb p hp⟩
      · exact absurd (W.sub _ g3) (W.disj _ h2)
    · exact h3.move (same z (W.alive a (List.mem_append_left _ h2))) sm
  · obtain ⟨h1, h2, h3⟩ := W.st.io i d e
    refine ⟨h1, h2, ?_⟩
    by_cases z : w.a0 ∈ tabs.map (·.1)
    · obtain ⟨p, hp, ep⟩ := List.mem_map.mp z
      obtain ⟨j, ⟨g1, g2, g3⟩ | ⟨g1, g2, g3⟩⟩ := root p hp
      · rw [ep] at g2
        exact absurd (W.sub _ h2) (W.disj _ g2)
      · obtain rfl := W.st.ioj i j d _ e g1
        rw [g1] at e
        cases e
        rw [← ep]
        exact ⟨hcl p hp, tb p hp⟩
    · exact h3.move (same z (W.alive _ (List.mem_append_right _ (W.sub _ h2)))) sm
  · obtain ⟨p, hp, rfl⟩ := List.mem_map.mp z
    obtain ⟨j, ⟨g1, g2, g3⟩ | ⟨g1, g2, g3⟩⟩ := root p hp
    · exact n1 j _ g1 g3
    · exact n2 j _ g1 g2
  · exact W.alive x (hx.elim (List.mem_append_left _) fun y => List.mem_append_right _ (W.sub _ y))
end
def tabsIn (ix : List (Nat × Str)) (s : S) : Bool := ix.all fun p => match ownD s[p.1]? with
  | some (.tab q) => q == p.2
  | _ => false
theorem tabsIn_get {ix : List (Nat × Str)} {s : S} (h : tabsIn ix s = true) : ∀ p ∈ ix, ownD s[p.1]? = some (.tab p.2) := fun p hp => by
  have z := List.all_eq_true.mp h p hp
  split at z
  · next q e => rw [e, eq_of_beq z]
  · cases z
def dCallB (n : Nat) (ix : List (Nat × Str)) (g : FnD) (fr : S → M (List D × S)) : S → M (D × S) := fun s => bd (fr s) fun p => if p.1.length = n ∧ tabsIn ix p.2 = true then bdC (nx (g p.1)) p.2 fun r => ok (r, p.2) else none
section
variable {X : Cx} {cl : Cl} {wx : WX} {n k : Nat} {g : FnD} {f : Addr} {fd : FuncData} {ps : List Str} {x : Str} {e : Expr} {es : List Expr} {p pos : Pos} {fr : S → M (List D × S)} {tabs : List (Addr × Str)} {ix : List (Nat × Str)}
theorem call_readB (hcl : ∀ p ∈ tabs, ∃ ns, cl p.2 = some (p.1, ns)) (hix : ix.map (·.2) = tabs.map (·.2)) : ∀ σ H Q, TEof X.K cl wx (dCallB n ix g fr) σ H Q → tCallX (spB X.K cl n tabs g) [] (WE wx) (TAof X.K cl wx fr) σ H Q := by
  rintro σ H Q ⟨w, L, sd, W, h⟩
  refine ⟨w, L, sd, W, PostA.bd botE h fun rs s1 h vs H1 st1 W1 rrs => ?_⟩
  dsimp only at h
  split at h
  rotate_left
  · exact h.elim
  next c =>
  have sl : ∀ p ∈ tabs, ∃ i : Nat, ownD s1[i]? = some (.tab p.2) := fun p hp => by
    have : p.2 ∈ ix.map (·.2) := by
      rw [hix]
      exact List.mem_map.mpr ⟨p, hp, rfl⟩
    obtain ⟨y, hy, e⟩ := List.mem_map.mp this
    exact ⟨y.1, by rw [← e]; exact tabsIn_get c.2 y hy⟩
  have at_ : ∀ p ∈ tabs, p.1 ∈ L ++ w.O0 ∧ TabAt (L ++ w.O0) H1 p.1 p.2 := fun p hp => by
    obtain ⟨i, hi⟩ := sl p hp
    obtain ⟨a, h1, h2, ⟨ns, k1⟩, t⟩ := W1.atD hi
    obtain ⟨ns', k2⟩ := hcl p hp
    rw [k2] at k1
    cases k1
    exact ⟨h2.elim (List.mem_append_left _) fun y => List.mem_append_right _ (W1.sub _ y.2), t⟩
  rw [List.append_nil]
  refine ⟨rrs.len.trans c.1, L ++ w.O0, rs, W1.alive, at_, rrs, ?_⟩
  match (g rs : M D), h with
  | none, h => exact h.elim
  | some (.ex _ _), h => exact h.elim
  | some (.ok r), h =>
    intro v H2 kp tb rv
    obtain ⟨W2, st2⟩ := W1.retab sl hcl kp tb
    exact h v H2 (st1.trans st2) W2 rv
theorem d_callTB (F : FnG X.prog X.w X.K X.mg X.base (L2.CX X.prog X.w) k f fd ps (spB X.K cl n tabs g)) (hcl : ∀ p ∈ tabs, ∃ ns, cl p.2 = some (p.1, ns)) (ix : List (Nat × Str)) (hix : ix.map (·.2) = tabs.map (·.2)) (hgd : X.A.guards = some []) (hr : Room k X.A) (hm : X.mg x = some (.ref f)) (hk : PySem.W.keepIn X.K (.ref f) = true) (hb : Binds X.K fd ps [])
    (ha : PA X (e :: es) (TAof X.K cl wx fr)) (hg : Gl X x := by rfl) (hdb : (x == ("__debug__" : Str)) = false := by decide) (hs : starEach (e :: es) X.env = (false, eval e X.env) :: starEach es X.env := by rfl)
    (hpl : (backTo pos (starEach es X.env)).any (·.1) = false := by rfl) (tk : Takes X wx := by first | assumption | exact takes_no) : PE X (.Call (.Name x p) (e :: es) [] pos) (TEof X.K cl wx (dCallB n ix g fr)) :=
  iE (pe_callG F hgd hr hm hk hb .nil (fun σ => passAt tk σ) ha hg hdb hs hpl) (call_readB hcl hix)
end
/-- a def with tables; c: the def's own code object -/
theorem okB {P : Program} {w : World} {mg : Str → Option Value} {base : Heap} {k : Nat} {f : Addr} {fd : FuncData} {ps : List Str} {x qual : Str} {params : Arguments} {body : List Stmt} {scope : Scope} {dvs : List V} {kws : List (Str × V)} {N G : List Str} {F : S → M Out} {n : Nat} {g : FnD} {K : PySem.W.Frag} {cl : Cl} {tabs : List (Addr × Str)} {cd : Value}
    (D0 : FunD K x qual params body scope dvs kws f fd) (sc : FnScope (N ++ G) ps scope) (eg : g = runB N.length (tabs.map (·.2)) F) (en : n = ps.length) (hG : G.length = tabs.length) (un : ∀ y ∈ G, ¬ Vis scope y) (nd : (tabs.map (·.1)).Nodup) (hcl : ∀ p ∈ tabs, ∃ ns, cl p.2 = some (p.1, ns)) (hN : n ≤ N.length)
    (code : fd.code = cd)
    (h : ∀ (cdv : Value) (A : Around) (outer : List Env) (s : Shared) (H : Hp) (E : XK), cdv = cd → A.guards = some [] → Room k (A.deeper (envOfC qual scope s.heap.objs.size f cdv)) →
      Takes (cxOf (L2.CX P w) P w K mg base (N ++ G) qual scope f cdv A outer s H E) (wxE E) → PassesOwn (model P w) (cxOf (L2.CX P w) P w K mg base (N ++ G) qual scope f cdv A outer s H E).A (cxOf (L2.CX P w) P w K mg base (N ++ G) qual scope f cdv A outer s H E).env (cxOf (L2.CX P w) P w K mg base (N ++ G) qual scope f cdv A outer s H E).xe →
      ∃ ts, PSs (cxOf (L2.CX P w) P w K mg base (N ++ G) qual scope f cdv A outer s H E) body (TSof K cl (wxE E) ts F)) : FnG P w K mg base (L2.CX P w) (k + 1) f fd ps (spB K cl n tabs g) := by
  subst eg en
  obtain ⟨oc, od, dV, kV, doc, pm, an, cdv, ct, osl, rfl, lk, hcd, _, _⟩ := D0.ex
  refine ⟨fun vs H Q E z => z.1, fun A outer s H args us vs Q E hg hr e0 hb r z => ?_⟩
  obtain ⟨ts, hp⟩ := h cdv A outer s H E code hg (hr.deeper _) (takes_of rfl rfl rfl rfl) (passes_of rfl)
  obtain ⟨t, h1, h2⟩ := walkB (X := cxOf (L2.CX P w) P w K mg base (N ++ G) qual scope f cdv A outer s H E) rfl hG un nd hcl hN hp z
  exact run_def lk hcd sc hr e0 hb r z.1 h1 h2
end Dt
namespace Dt
open L2 PySem PySem.Spec PyProof.Rows
/-! ### the end of a law whose defs make lambdas -/
theorem sp_lawB {K : PySem.W.Frag} {cl : Cl} {g : FnD} {H : Hp} {a : Addr} {ns : List Int} {E : XK} {tabs : List (Addr × Str)} (hT : ∀ p ∈ tabs, H p.1 = some (.tbl #[])) (na : a ∉ tabs.map (·.1)) (hs : SqL K H a (ns.map V.int)) (h : g [.lst (ns.map D.int)] = ok (.bl true)) :
    spB K cl 1 tabs g [.ref a] H (fun v _ => v = .bl true) E := by
  have hs' : SqL K (hide (tabs.map (·.1)) H) a (ns.map V.int) := by
    rcases hs with (q | ⟨o, q⟩) | q
    · exact .inl (.inl (hide_some.mpr ⟨na, q⟩))
    · exact .inl (.inr ⟨o, hide_some.mpr ⟨na, q⟩⟩)
    · exact .inr q
  refine ⟨rfl, tabs.map (·.1), [.lst (ns.map D.int)], fun b hb => ?_, fun p hp => ⟨List.mem_map.mpr ⟨p, hp, rfl⟩, #[], hT p hp, True.intro, fun pos cv z => ?_⟩, .cons (.lst hs' (ints_rp ns)) .nil, ?_⟩
  · (obtain ⟨p, hp, rfl⟩ := List.mem_map.mp hb)
    rw [hT p hp]
    simp
  · have z : codeAmong pos [] = some cv := z
    simp [codeAmong] at z
  · rw [h]
    intro v H' _ _ r
    cases r
    rfl
/-- a table of a top-level def -/
abbrev TopTabs (q : Program) (h : Heap) : Prop := ∀ (K : PySem.W.Frag), K.In h → ∀ (x : Str) (d : DefRec) (c P : Addr), (recsOf q).find? (fun e => e.name == x) = some d → PySem.W.tabIn K x = some (c, P) → PySem.W.CodeHd h c P ∧ h.get? P = some (PySem.W.tabObj #[])
theorem walk_GT {l : PySem.W.OpenLaw} {n k : Nat} {q : Program} {loose : List Str} {XP : (Str → Option Value) → Heap → Prop} {YP : World → Heap → Prop} {d : DefRec} {x : Str}
    (hn : l.most = some n) (hn2
          : n ≤ sizeLine) (hdf : d.params.defaults = []) (hr : Room k callerA)
    (F : ∀ (w : World) (mg : Str → Option Value) (fa : Addr) (h : Heap), YP w h → h.Ns mainGlobals mg → mg d.name = some (.ref fa) → TopTabs q h →
      ∃ (K : PySem.W.Frag) (fd : FuncData) (cl : Cl) (g : FnD) (cs : List (Addr × Addr)) (tabs : List (Addr × Str)), K.In h ∧ (∀ (s : Shared) (u : Value), BindsTo s fd ⟨[u], []⟩ [(x, u)]) ∧ (∀ ns : List Int, ns.length ≤ n → g [.lst (ns.map D.int)] = ok (.bl true)) ∧
        tabs.map (·.1) = cs.map (·.2) ∧ (∀ p ∈ cs, h.get? p.2 = some (PySem.W.tabObj #[])) ∧ (∀ p ∈ cs, K.lookup p.2 = none) ∧ (∀ p ∈ cs, PySem.W.CodeHd h p.1 p.2) ∧
        ∀ base : Heap, K.In base → base.Ns mainGlobals mg → (∀ p ∈ cs, LamX.TabB base mg p.1 p.2) → FnG l.prog w K mg base (L2.CX l.prog w) k fa fd [x] (spB K cl 1 tabs g)) :
    PySem.W.WalkO q loose XP YP l.row.toRowW d []
          (fun f vs => PySem.call f vs) := by
  (refine Att.attach_call hn hdf fun w s₀ s₁ mg mb fa o pm cd doc a vs ns G Y ho hd hcd hmg hobj hints hlen hg => ?_)
  obtain ⟨K, fd, cl, g, cs, tabs, KX, hb, hlaw, eT, hT, nT, C, hF⟩ := F w mg fa _ Y G.T.g hmg fun K X x d c P => PySem.W.tab_of G.T X
  have hl : ns.length ≤ sizeLine := Nat.le_trans hlen hn2
  have rv := vals_ints hints
  have lv := hints.length
  have raw : ∀ {b : Addr}, b ∈ cs.map (·.2) → s₁.heap.get? b = some (PySem.W.tabObj #[]) := fun {b} hb => by
    obtain ⟨p, hp, rfl⟩ := List.mem_map.mp hb
    exact hT p hp
  have aT
        : a ∉ cs.map (·.2) := fun z => by
    have e := raw z
    rw [hobj] at e
    cases (show Data.seq vs.toArray _ = Data.fields #[] from congrArg Obj.data (Option.some.inj e))
  have inT : ∀ {p}, p ∈ cs → p.2 ∈ cs.map (·.2) := fun {p} hp => List.mem_map.mpr ⟨p, hp, rfl⟩
  have main : ∀ H : Hp, (∀ b, b ∈ cs.map (·.2) → H b = some (.tbl #[])) → (∀ b, b ∉ cs.map (·.2) → H b = none ∨ ∃ o xs, H b = some (.frz o (.lst xs))) → SqL K H a (ns.map V.int) → HOk l.prog w H s₁.heap → (∀ b, b ∉ cs.map (·.2) → H b ≠ none → b = a) → (H a ≠ none → K.lookup a = none) →
      codeAny (model l.prog w) callerA (.call (.ref fa) ⟨[.ref a], []⟩) (fun r s' => r = .ok (.ret (.bool true)) ∧ OldK s₁.heap s'.heap ∧ s'.os = s₁.os ∧ AllBare s'.gens) s₁ := by
    intro H hH hO hS hok hA hK
    have off : ∀ {b : Addr} {ob : Obj}, s₁.heap.get? b = some ob → (∀ xs m, ob.data ≠ .seq xs m) → ob.data ≠ .fields #[] → H b = none := fun {b ob} e n1 n2 => by
      by_cases z : b ∈ cs.map (·.2)
      · rw [raw z] at e
        cases e
        exact absurd rfl n2
      · cases q : H b with
        | none => rfl
        | some u =>
          rw [hA b z (by rw [q]; simp), hobj] at e
          cases e
          exact absurd rfl (n1 _ _)
    have offD : ∀ {b : Addr} {ob : Obj} {es : Array DictEntry} {ep : Nat}, s₁.heap.get? b = some ob → ob.data = .dict es ep → H b = none := fun e1 e2 => off e1 (fun _ _ z => by rw [e2] at z; cases z) fun z => by rw [e2] at z; cases z
    have nsB : ∀ {b : Addr} {m : Str → Option Value}, s₁.heap.Ns b m → (hidT s₁.heap H).Ns b m := fun {b m} ⟨ob, es, ep, e1, e2, r⟩ => ⟨ob, es, ep, hidT_get e1 (offD e1 e2), e2, r⟩
    have inB : K.In (hidT s₁.heap H) := fun b ob e => by
      refine hidT_get (KX b ob e) ?_
      by_cases z : b ∈ cs.map (·.2)
      · obtain ⟨p, hp, rfl⟩ := List.mem_map.mp z
        rw [nT p hp] at e
        cases e
      · cases q : H b with
        | none => rfl
        | some u =>
          have y := hA b z (by rw [q]; simp)
          subst y
          (rw [hK (by rw [q]; simp)] at e)
          cases e
    obtain ⟨mc, n1, n2⟩ := G.T.nolimit
    have env : Env0 l.prog w K mg (hidT s₁.heap H) callerA [] s₁ H := ⟨rfl, ⟨inB, nsB G.T.g, ⟨mb, nsB G.T.b, G.T.builtins⟩, ⟨mc, nsB n1, n2⟩⟩, fun b ob e => of_hidT e, Nat.le_of_eq (hidT_size _ _), trivial, fun b hb => absurd (show b ∈ ([] : List Addr) from hb) (by simp), hok, .of_eq hg⟩
    have tb : ∀ p ∈ cs, LamX.TabB (hidT s₁.heap H) mg p.1 p.2 := fun p hp => by
      have rawP := hT p hp
      refine ⟨?_, ?_, fun z => ?_⟩
      · obtain ⟨oc, us, file, tf, flags, tg, inF, text, tt, e1, r1, r2, r3, r4⟩ := C p hp
        refine ⟨oc, us, file, tf, flags, tg, inF, text, tt, hidT_get e1 (off e1 (fun _ _ z => ?_) fun z => ?_), r1, r2, r3, r4⟩
        · rw [r2] at z
          cases z
        · rw [r2] at z
          cases z
          simp at r3
      · obtain ⟨bm, ob, b1, b2, b3, b4, b5, b6⟩ := G.T.bmain
        refine ⟨bm, ob, b1, b2, fun q => ?_, fun q => ?_, hidT_get b3 (off b3 (fun _ _ z => ?_) fun z => ?_), b4, b5, b6⟩
        · obtain ⟨og, es, ep, e, hd, _⟩ := G.T.g
          rw [q, e] at b3
          cases b3
          rw [hd] at b6
          cases b6
        · rw [q, rawP] at b3
          cases b3
          cases b6
        · rw [b6] at z
          cases z
        · rw [b6] at z
          cases z
      · obtain ⟨og, es, ep, e, hd, _⟩ := G.T.g
        rw [z, rawP] at e
        cases e
        cases hd
    have sp := sp_lawB (K := K) (cl := cl) (g := g) (H := H) (a := a) (ns := ns) (E := fun _ _ _ => False) (tabs := tabs) (fun p hp => hH _ (by rw [← eT]; exact List.mem_map.mpr ⟨p, hp, rfl⟩)) (by rw [eT]; exact aT) hS (hlaw ns hlen)
    refine codeAny_mono ((hF _ inB (nsB G.T.g) tb).go callerA [] s₁ H ⟨[.ref a], []⟩ [.ref a] [.ref a] _ (fun _ _ _ => False) rfl hr env (hb s₁ (.ref a)) (.cons rfl .nil) sp) fun r s' h => ?_
    match r, h with
    | .error e, h =>
      (obtain ⟨_, _, _, _, _, _, _, _, _, _, _, _, z⟩ := h)
      exact False.elim z
    | .ok .next, h => exact False.elim h
    | .ok .brk, h => exact False.elim h
    | .ok .cont, h => exact False.elim h
    | .ok (.ret u), h =>
      obtain ⟨v, H', os, bare, un, hok', r', z⟩ := h
      cases (show v = .bl true from z)
      cases (show u = Value.bool true from r')
      have old : ∀ b ob, b ∉ cs.map (·.2) → s₁.heap.get? b = some ob → s'.heap.get? b = some ob := fun b ob nb e => by
        rcases hO b nb with z | ⟨o2, xs, z⟩
        · exact un.keep b ob e z (fun y => absurd (show b ∈ ([] : List Addr) from y) (by simp)) (by simp)
        · have g1 := (hok b _ z).1
          have g2 := (hok' b _ (un.frzs b o2 _ z)).1
          rw [e] at g1
          cases g1
          exact g2
      have grown : ∀ p ∈ cs, ∃ more : Array Value, s'.heap.get? p.2 = some (PySem.W.tabObj more) := fun p hp => by
        obtain ⟨more, z⟩ := un.tbls p.2 #[] (hH p.2 (inT hp))
        exact ⟨_, hok' p.2 _ z⟩
      refine ⟨rfl, ⟨fun b ob e => ?_, fun b ob e => ?_⟩, os, bare⟩
      · by_cases z : b ∈ cs.map (·.2)
        · obtain ⟨p, hp, rfl⟩ := List.mem_map.mp z
          (obtain ⟨more, hm⟩ := grown p hp)
          rw [hT p hp] at e
          cases e
          (exact .inr (.inl ⟨((C p hp).tab (hT p hp)).isCodeTable, rfl, #[], more, rfl, by rw [Array.empty_append]; exact hm⟩))
        · exact .inl (old b ob z e)
      · by_cases z : b ∈ cs.map (·.2)
        · obtain ⟨p, hp, rfl⟩ := List.mem_map.mp z
          (obtain ⟨more, hm⟩ := grown p hp)
          exact ⟨_, hm⟩
        · exact ⟨ob, old b ob z e⟩
  let fz : Option HO := match K.lookup a with
    | some _ => none
    | none => some (HO.frz { cls := .type "list", data := .seq vs.toArray } (.lst (ns.map V.int)))
  have cases_ : ∀ {b : Addr} {r : Option HO}, (if b ∈ cs.map (·.2) then some (HO.tbl #[]) else if b = a then fz else none) = r → (b ∈ cs.map (·.2) ∧ r = some (.tbl #[])) ∨ (b ∉ cs.map (·.2) ∧ b = a ∧ r = fz) ∨ (b ∉ cs.map (·.2) ∧ r = none) := fun {b r} e => by
    by_cases z : b ∈ cs.map (·.2)
    · rw [if_pos z] at e
      exact .inl ⟨z, e.symm⟩
    · rw [if_neg z] at e
      by_cases y : b = a
      · rw [if_pos y] at e
        exact .inr (.inl ⟨z, y, e.symm⟩)
      · rw [if_neg y] at e
        exact .inr (.inr ⟨z, e.symm⟩)
  have atA : (if a ∈ cs.map (·.2) then some (HO.tbl #[]) else if a = a then fz else none) = fz := by rw [if_neg aT, if_pos rfl]
  have fz_cases : (fz = none ∧ ∃ ob, K.lookup a = some ob) ∨ (fz = some (HO.frz { cls := .type "list", data := .seq vs.toArray } (.lst (ns.map V.int))) ∧ K.lookup a = none) := by
    show ((match K.lookup a with | some _ => none | none => some _) = none ∧ _) ∨ ((match K.lookup a with | some _ => none | none => some _) = some _ ∧ _)
    cases q : K.lookup a with
    | some ob => exact .inl ⟨rfl, ob, rfl⟩
    | none => exact .inr ⟨rfl, rfl⟩
  refine main (fun b => if b ∈ cs.map (·.2) then some (HO.tbl #[]) else if b = a then fz else none) (fun b hb => if_pos hb) (fun b hb => ?_) ?_ (fun b u e => ?_) (fun b hb e => ?_) fun e => ?_
  · rcases cases_ (b := b) rfl with ⟨z, _⟩ | ⟨_, _, e⟩ | ⟨_, e⟩
    · exact absurd z hb
    · rcases fz_cases with ⟨y, _⟩ | ⟨y, _⟩
      · exact .inl (e.trans y)
      · exact .inr ⟨_, _, e.trans y⟩
    · exact .inl e
  · rcases fz_cases with ⟨_, ob, q⟩ | ⟨y, _⟩
    · have e := KX a ob q
      rw [hobj] at e
      cases e
      exact .inr ⟨_, vs.toArray, _, q, rfl, rfl, rfl, by rw [List.size_toArray, lv]; exact hl, by simpa using rv⟩
    · exact .inl (.inr ⟨{ cls := .type "list", data := .seq vs.toArray }, atA.trans y⟩)
  · rcases cases_ e with ⟨z, e⟩ | ⟨z, rfl, e⟩ | ⟨z, e⟩
    · cases e
      exact raw z
    · rcases fz_cases with ⟨y, _⟩ | ⟨y, _⟩
      · rw [y] at e
        cases e
      · rw [y] at e
        cases e
        exact ⟨hobj, by rw [List.length_map]; exact hl, vs, _, rv, hobj⟩
    · cases e
  · rcases cases_ (b := b) rfl with ⟨z, _⟩ | ⟨_, y, _⟩ | ⟨_, y⟩
    · exact absurd z hb
    · exact y
    · exact absurd y e
  · rcases fz_cases with ⟨y, _⟩ | ⟨_, y⟩
    · exact absurd (atA.trans y) e
    · exact y
end Dt
namespace Dt
open L2 PySem PySem.Spec PyProof.Rows
/-! ### the tables of a law's defs, as looked up in what the head tells -/
def tA (K : PySem.W.Frag) (x : Str) : Addr := match PySem.W.tabIn K x with
  | some (_, P) => P
  | none => 0
def tC (K : PySem.W.Frag) (x : Str) : Addr := match PySem.W.tabIn K x with
  | some (c, _) => c
  | none => 0
def tabB (K : PySem.W.Frag) (x : Str) : Bool := match PySem.W.tabIn K x with
  | some (_, P) => (match K.lookup P with
    | some _ => false
    | none => true)
  | none => false
theorem tab_in {K : PySem.W.Frag} {x : Str} (h : tabB K x = true) : PySem.W.tabIn K x = some (tC K x, tA K x) := by
  unfold tabB at h
  unfold tC tA
  match q : PySem.W.tabIn K x, h with
  | some (c, P), _ => rfl
  | none, h => cases h
theorem tab_no {K : PySem.W.Frag} {x : Str} (h : tabB K x = true) : K.lookup (tA K x) = none := by
  unfold tabB at h
  unfold tA
  match q : PySem.W.tabIn K x, h with
  | some (c, P), h =>
    dsimp only at h ⊢
    match q2 : K.lookup P, h with
    | none, _ => rfl
    | some _, h => cases h
  | none, h => cases h
def nodA (l : List Addr) : Bool := decide l.Nodup
theorem nod_of {l : List Addr} (h : nodA l = true) : l.Nodup := of_decide_eq_true h
theorem un_by {G : List Str} {sc : Scope} (h : G.all (fun y => (sc.names.lookup y).isNone) = true) : ∀ y ∈ G, ¬ Vis sc y := fun y hy v => by
  have z := List.all_eq_true.mp h y hy
  rcases v with e | e | e <;> rw [e] at z <;> cases z
end Dt
namespace Dt
open L2 PySem PySem.Spec PyProof.Rows
/-! ### except clauses with any number of classes -/
section
open PySem.W
variable {M : Model} {h : Heap}
end
section
variable {X : Cx} {cls : Value} {b : Bool} {x1 x2 x3 x4 x5 x6 : Str} {c1 c2 c3 c4 c5 c6 : Value} {p1 p2 p3 p4 p5 p6 tpos : Pos} {kk : Nat}
end
end Dt
namespace Dt
open L2 PySem PySem.Spec PyProof.Rows
/-! ### a tuple times any int up to 1000 -/
section
variable {X : Cx}
variable {cl : Cl}
/-! ### x in xs, xs a tuple of plain data -/
end
end Dt
namespace Dt
open PySem
/-! ### the call of the lambda, in a try -/
theorem dAct_ev {x : D} {r : M D} {s : S} {i : Nat} (h : s[i]? = some (.val x)) : dAct i x r s = bdC r s fun d => ok (d, s) := by
  unfold dAct
  exact if_pos h
section
variable {x : D} {n i j k : Nat} {tb : List (Str × Bool)} {s : S}
theorem seq_none {F G : S → M Out} {s : S} (h : F s = none) : sSeq F G s = none := by
  unfold sSeq
  rw [h]
  rfl
theorem seq_at {F G : S → M Out} {s s1 : S} (h : F s = ok (.nx s1)) : sSeq F G s = G s1 := by
  unfold sSeq
  rw [h, bd_ok']
end
end Dt
/-! L16a: fields of a tree as targets; flat values seen in a view -/
namespace Dt
open L2 PySem PySem.Spec PyProof.Rows
def gTFld (i : Nat) (c : Str) (j : Nat) : D → S → M S := fun r s => match treD s[i]? with
  | some (b, .obj c' ds) => if c' = c ∧ j ≤ ds.length ∧ ds.length < 1000 then ok (s.set i (.tre b (.obj c' (setF ds j r)))) else none
  | _ => none
instance (i : Nat) (c : Str) (j : Nat) : NoX (gTFld i c j) := ⟨fun d s e s' h => by
  unfold gTFld at h
  split at h
  · split at h <;> cases h
  · cases h⟩
section
variable {X : Cx} {cl : Cl} {wx : WX} {o : Expr} {to : TE} {c f : Str} {C : Addr} {names : List Str} {j : Nat} {e : Expr} {fe : S → M (D × S)}
end
end Dt
/-! L16b: C(e, ..) of a tree's class; x.m(e, ..) that changes x, a tree; with defaults -/
namespace Dt
open L2 PySem PySem.Spec PyProof.Rows
section
variable {X : Cx} {k n : Nat} {f C : Addr} {x m c : Str} {p pos apos py : Pos} {fd : FuncData} {ps : List Str} {e : Expr} {es : List Expr} {cl : Cl} {wx : WX} {fr : S → M (List D × S)} {gI : D → List D → M (D × D)} {names : List Str} {dvs : List V} {ds : List Value} {dd : List D}
end
end Dt
/-! L16c: x, y = (a new tree, a new tree) -/
namespace Dt
open L2 PySem PySem.Spec PyProof.Rows
section
variable {K : PySem.W.Frag} {cl : Cl} {wx : WX} {w : Wf} {L L' : List Addr} {s s1 s2 : S} {σ : L2.St} {H H1 H2 : Hp} {fp : List Addr}
end
section
variable {X : Cx} {K : PySem.W.Frag} {cl : Cl} {wx : WX} {pos : Pos} {a b : Expr} {f g : S → M (D × S)}
end
end Dt
/-! L16d: a body that ends by giving back a tree that stands in a slot -/
namespace Dt
open L2 PySem PySem.Spec PyProof.Rows
section
variable {X : Cx} {K : PySem.W.Frag} {cl : Cl} {wx : WX} {pos : Pos} {ts : List Nat} {st : Stmt} {rest : List Stmt} {F : S → M Out} {G : S → M (Nat × S)}
end
/-! ### f(..) that makes a tree by statements -/
section
variable {K : PySem.W.Frag} {cl : Cl}
end
/-! ### f(x, ..) that changes x, a tree, and gives it back -/
section
variable {K : PySem.W.Frag} {cl : Cl}
end
/-! ### f(x, ..).m(..) -/
section
variable {X : Cx} {k k2 n n2 : Nat} {f f2 C : Addr} {fd fd2 : FuncData} {ps ps2 : List Str} {x m c : Str} {p pos apos p2 : Pos} {e : Expr} {es as : List Expr} {cl : Cl} {wx : WX} {fr fr2 : S → M (List D × S)} {gI g2 : D → List D → M (D × D)} {names : List Str} {dvs : List V} {ds : List Value} {dd : List D}
end
end Dt
/-! L16e: range(i, j, c), c above 0 -/
namespace Dt
open L2 PySem PySem.Spec PyProof.Rows
def rng3Ok (i j c : Int) : Prop := 0 < c ∧ c < 1000000 ∧ -1000000000000 ≤ i ∧ i < 1000000000000 ∧ -1000000000000 ≤ j ∧ j < 1000000000000
instance (i j c : Int) : Decidable (rng3Ok i j c) := by unfold rng3Ok; infer_instance
section
variable {X : Cx} {K : PySem.W.Frag} {cl : Cl} {wx : WX} {tg a b c : Expr} {p pos : Pos} {fr : S → M (List D × S)}
end
end Dt
/-! L16f: sorted of a list or a tuple of ints -/
namespace Dt
open L2 PySem PySem.Spec PyProof.Rows
section
variable {X : Cx} {cl : Cl} {wx : WX}
end
end Dt
/-! L17a: f(x, y, ..) that changes x, an own dict, and y, a tree -/
namespace Dt
open L2 PySem PySem.Spec PyProof.Rows
section
variable {K : PySem.W.Frag} {cl : Cl} {wx : WX} {n : Nat} {H H' : Hp} {vs : List V} {ds : List D} {O : List Addr} {fp : List Addr} {a1 a2 : Addr} {d1 d2 : D} {ws : List V}
end
end Dt
/-! L17b: calls of f(x, y, ..) that changes x, an own dict, and y, a tree; exceptions raised in a view -/
namespace Dt
open L2 PySem PySem.Spec PyProof.Rows
section
variable {K : PySem.W.Frag} {cl : Cl} {wx : WX} {w : Wf} {L : List Addr} {sd : S} {σ : L2.St} {H H1 : Hp} {Q : VK} {i j b : Nat} {d1 d2 : D}
theorem Wl.apart (W : Wl K cl w L sd σ H) (e1 : ownD sd[i]? = some d1) {a1 a2 : Addr} {fp : List Addr} (hσ : σ[i]? = some (some (.ref a1))) (e2 : sd[j]? = some (.tre b d2)) (hσ2 : σ[j]? = some (some (.ref a2))) (T : Tr K cl (hide (L ++ w.O0) H) H fp (.ref a2) d2) : a1 ∉ fp := by
  obtain ⟨F, h1, h2, h3, h4⟩ := W.st.tr.ex
  obtain ⟨a, k1, _, k3, _⟩ := h1 j b d2 e2
  rw [hσ2] at k1
  cases k1
  rw [T.uniq k3]
  match q : sd[i]?, e1 with
  | some (.own d), e1 => exact h3 j i b d2 d a1 e2 q hσ
  | some (.io d), e1 =>
    have z := (W.st.io i d q).1
    rw [hσ] at z
    cases z
    exact h4 j i b d2 d e2 q
end
section
variable {X : Cx} {k n : Nat} {f : Addr} {fd : FuncData} {ps : List Str} {x : Str} {p pos : Pos} {e : Expr} {es : List Expr} {cl : Cl} {wx : WX} {fr : S → M (List D × S)} {gI : D → D → List D → M (D × D × D)} {fe : S → M (D × S)}
/-! ### exceptions raised in a view -/
end
end Dt
namespace Dt
open PySem PySem.Spec PyProof.Rows L2 GenW PpSet
/-! ### sorted({elt for ..}), elt a whole number -/
section
variable {X : Cx}
end
section
variable {X : Cx} {K : PySem.W.Frag} {cl : Cl} {wx : WX} {pos : Pos}
end
end Dt
/-! L18a: x.m(e, ..) as a statement, m gives the tree x new parts; super().__init__(e, ..) of a tree; cls(e, ..) makes a tree; cls.F -/
namespace Dt
open PySem PySem.Spec PyProof.Rows L2 NdefX
section
variable {K : PySem.W.Frag} {cl : Cl} {wx : WX} {ts : List Nat} {w : Wf} {L : List Addr} {σ : L2.St} {H H1 : Hp} {Ed : Ends} {i b : Nat} {d : D}
end
section
variable {X : Cx} {k n : Nat} {C f Dc : Addr} {fd : FuncData} {ps names : List Str} {dvs : List V} {ds : List Value} {dd : List D} {slf m c x : Str} {p p0 p1 pos apos pos2 py : Pos} {e : Expr} {es : List Expr} {cl : Cl} {wx : WX} {fr : S → M (List D × S)} {gI : D → List D → M (D × D)} {bd : List Stmt}
end
/-! ### a def that uses super() and changes its argument, a tree -/
section
variable {K : PySem.W.Frag} {cl : Cl} {wx : WX} {n : Nat} {H H' : Hp} {vs : List V} {ds : List D} {O : List Addr} {al : Bool} {fp : List Addr} {a : Addr}
end
section
variable {P : Program} {w : World} {K : PySem.W.Frag} {cl : Cl} {mg : Str → Option Value} {base : Heap} {k n : Nat} {x qual slf : Str} {params : Arguments} {body : List Stmt} {scope : Scope} {dvs : List V} {kws : List (Str × V)} {f Dc : Addr} {fd : FuncData} {N ps : List Str} {F : S → M Out} {al : Bool}
end
/-! ### cls(e, ..) makes a tree; cls.F -/
section
variable {X : Cx} {k n : Nat} {f C : Addr} {fd : FuncData} {ps names : List Str} {dvs : List V} {ds : List Value} {dd : List D} {x c : Str} {p p0 pos : Pos} {e : Expr} {es : List Expr} {cl : Cl} {wx : WX} {fr : S → M (List D × S)} {g : D → List D → M (D × D)}
end
end Dt
/-! L18b: a new tree made in a view, let go at once; C.m(e, ..) of a classmethod that makes a tree -/
namespace Dt
open L2 PySem PySem.Spec PyProof.Rows
section
variable {K : PySem.W.Frag} {cl : Cl} {g H : Hp}
end
section
variable {X : Cx} {cl : Cl} {e : Expr} {fe : S → M (D × S)}
end
/-! ### C.m(e, ..), a classmethod that makes a tree -/
section
variable {X : Cx} {k n : Nat} {C p g : Addr} {fd : FuncData} {ps names : List Str} {dvs : List V} {ds : List Value} {dd : List D} {mc : Value} {m c x : Str} {p0 pos apos : Pos} {e : Expr} {es : List Expr} {cl : Cl} {wx : WX} {fr : S → M (List D × S)} {gf : FnD}
end
end Dt
/-! L18c: try: body, except tt as n: y = (n.f, n.g, n.h) -/
namespace Dt
open L2 PySem PySem.Spec PyProof.Rows
section
variable {X : Cx} {cl : Cl} {wx : WX} {n y f0 f1 f2 : Str} {i j m : Nat} {tt : Expr} {body : List Stmt} {pos pos' pos2 pn0 pn1 pn2 py p0 p1 p2 tp : Pos} {F : S → M Out} {ts : List Nat}
end
end Dt
/-! L18d: a != b, a an instance of C, b of C2, C2 no class below C -/
namespace Dt
open L2 PySem PySem.Spec PyProof.Rows
section
variable {prog : Program} {w : World} {A : Around} {E : Value → Shared → Prop} {s : Shared} {K : PySem.W.Frag} {x C f : Addr} {ox : Obj} {od : Option Obj} {b tb : Value}
end
section
variable {X : Cx} {CX : CXT} {k : Nat} {C C2 f : Addr} {fd : FuncData} {ps names names2 : List Str} {sp : Sp} {E : XK} {cl : Cl} {c c2 : Str} {g : FnD}
end
end Dt
/-! L18e: f-strings of texts and ints; repr(o) of an instance with its own __repr__ -/
namespace Dt
open L2 PySem PySem.Spec PyProof.Rows
section
variable {X : Cx} {K : PySem.W.Frag} {cl : Cl} {wx : WX} {pos : Pos} {e e1 e2 : Expr} {es : List Expr} {f : S → M (D × S)} {fs : List (S → M (D × S))}
end
section
variable {X : Cx} {CX : CXT} {k : Nat} {C f : Addr} {fd : FuncData} {ps names : List Str} {sp : Sp} {E : XK} {cl : Cl} {c : Str} {g : FnD}
end
end Dt
/-! L18f: x, y = (a new tree, a value) -/
namespace Dt
open L2 PySem PySem.Spec PyProof.Rows
section
variable {X : Cx} {K : PySem.W.Frag} {cl : Cl} {wx : WX} {pos : Pos} {a b : Expr} {f g : S → M (D × S)}
end
end Dt
/-! L19a: C.m(e, ..) of a plain def m of C, called by the class, that makes a tree; dict(d), a copy; a new tree made in a view -/
namespace Dt
open L2 PySem PySem.Spec PyProof.Rows
section
variable {X : Cx} {pins : List (Addr × Obj)} {σ : L2.St} {H : Hp} {s : Shared} {C g : Addr} {m : Str} {A : Around} {E : Value → Shared → Prop}
end
section
variable {X : Cx} {CX : CXT} {k n : Nat} {C g : Addr} {fd : FuncData} {ps : List Str} {sp : Sp} {dvs : List V} {ds : List Value} {dd : List D} {E : L2.St → XK} {m x : Str} {p0 pos apos : Pos} {e : Expr} {es : List Expr} {t : TA} {cl : Cl} {wx : WX} {fr : S → M (List D × S)} {gf : FnD}
end
/-! ### dict(d), a copy -/
/-! ### a new tree made in a view -/
section
variable {K : PySem.W.Frag} {cl : Cl} {g g' H : Hp}
end
section
variable {X : Cx} {cl : Cl} {wx : WX} {e : Expr} {fe : S → M (D × S)}
end
end Dt
/-! L19b: x.f, x.g = (e, h), x a tree, e and h values or new objects -/
namespace Dt
open L2 PySem PySem.Spec PyProof.Rows
def boxSl : Sl → D
  | .val d => d
  | .own d => .box d
  | _ => .non
def okSl : Sl → Bool
  | .val _ => true
  | .own d => isLDO d
  | _ => false
section
variable {K : PySem.W.Frag} {cl : Cl} {h0 H H' : Hp} {O P : List Addr}
theorem Mix.up (s : Same (hide O H) (hide O H')) : ∀ {P : List Addr} {vs : List V} {ss : List Sl}, (∀ p ∈ P, H' p = H p) → Mix K cl h0 O H P vs ss → Mix K cl h0 O H' P vs ss
  | _, _, _, _, .nil => .nil
  | _, _, _, e, .val r m => .val (r.mono s) (m.up s e)
  | _, _, _, e, .own r n m => .own (r.move (e _ List.mem_cons_self) s) n (m.up s fun p hp => e p (List.mem_cons_of_mem _ hp))
theorem Mix.part {v : V} {vs : List V} {x : Sl} {ss : List Sl} (m : Mix K cl h0 O H P (v :: vs) (x :: ss)) (hx : okSl x = true) :
    ∃ fj P', TrC K cl (hide O H) H fj v (boxSl x) ∧ fj.Nodup ∧ (∀ y ∈ fj, y ∈ P ∧ y ∉ P') ∧ (∀ y ∈ P', y ∈ P) ∧ Mix K cl h0 O H P' vs ss := by
  cases m with
  | val r m => exact ⟨[], P, .sh r, .nil, fun y hy => by simp at hy, fun y hy => hy, m⟩
  | own r n m =>
    rename_i P1 p d
    refine ⟨[p], P1, .box (r.tree hx), by simp, fun y hy => ?_, fun y hy => List.mem_cons_of_mem _ hy, m⟩
    rw [List.mem_singleton.mp hy]
    exact ⟨List.mem_cons_self, n⟩
end
section
variable {X : Cx} {cl : Cl} {wx : WX} {pos : Pos} {c f1 f2 : Str} {C : Addr} {names : List Str} {j1 j2 : Nat} {e1 e2 : Expr} {fr : S → M (List Sl × S)}
end
end Dt
/-! L19c: xs[i], xs a list or a tuple -/
namespace Dt
open L2 PySem PySem.Spec PyProof.Rows
section
variable {X : Cx} {cl : Cl} {wx : WX} {pos : Pos} {a b : Expr} {fa fb : S → M (D × S)}
end
end Dt
/-! L20a: texts: split, isdigit, the signs of a text one by one, sign in text, int(text), text[i]; module constants that are texts -/
namespace Dt
open L2 PySem PySem.Spec PyProof.Rows
section
variable {X : Cx} {K : PySem.W.Frag} {cl : Cl} {wx : WX}
end
/-! ### o.split(e) -/
section
variable {X : Cx} {cl : Cl} {wx : WX} {o e : Expr} {fa fb : S → M (D × S)} {apos cpos : Pos}
/-! ### o.m(), o a text -/
end
/-! ### the signs of a text -/
def signs (x : Str) : List D := x.cps.toList.map fun c => D.str ⟨#[c]⟩
section
variable {X : Cx} {cl : Cl} {wx : WX} {tg l : Expr} {fa : S → M (D × S)}
end
/-! ### sign in text, text[i], int(text) -/
section
variable {X : Cx} {K : PySem.W.Frag} {cl : Cl}
end
end Dt
/-! L20b: try whose body raises nothing; x, y = (a new list, a new tree); x, y, z = (a new tree, e, f); what is never reached -/
namespace Dt
open L2 PySem PySem.Spec PyProof.Rows
/-! ### text[i] -/
section
variable {X : Cx} {K : PySem.W.Frag} {cl : Cl} {wx : WX} {e : Expr}
end
/-! ### try: nothing is raised -/
section
variable {X : Cx} {cl : Cl} {wx : WX} {ts : List Nat} {body : List Stmt} {h₀ : ExceptHandler} {hs : List ExceptHandler} {pos : Pos} {F : S → M Out}
end
/-! ### x, y = (a new list, a new tree) -/
section
variable {X : Cx} {cl : Cl} {wx : WX} {pos : Pos} {a b c : Expr} {f g : S → M (D × S)}
end
end Dt
/-! L20c: C() of a tree's class whose __init__ takes keywords only -/
namespace Dt
open L2 PySem PySem.Spec PyProof.Rows
end Dt
/-! L20d: a display of a dict that begins with another one: two stars, one more pair -/
namespace PySem
section
variable {prog : Program} {w : World} {K : Type} [DecidableEq K] {knd : KeyKind prog w K} {A : Around} {E : Value
      → Shared → Prop} {s : Shared}
end
end PySem
namespace Dt
open PySem PySem.Spec PyProof PyProof.Rows L2
section
variable {X : Cx} {pos : Pos} {k v0 v1 : Expr} {t0 tk tv : TE}
end
end Dt
namespace Dt
open L2 PySem PySem.Spec PyProof.Rows
section
variable {X : Cx} {cl : Cl} {wx : WX} {pos : Pos} {k v0 v1 : Expr} {f0 fk fv : S → M (D × S)}
end
end Dt
/-! L20e: a run that asks the world whether special lookups raise (a dict with text keys is displayed at the top): two cases -/
namespace Dt
open PySem PySem.W
end Dt
/-! L20f: a field of a tree that is a value; str(i) for long numbers -/
namespace Dt
open L2 PySem PySem.Spec PyProof.Rows
/-! ### x.f, x a tree, f a field that is no part of it -/
section
variable {K : PySem.W.Frag} {cl : Cl} {g H : Hp}
end
section
variable {X : Cx} {cl : Cl} {wx : WX} {pos : Pos} {c f : Str} {C : Addr} {names : List Str} {j : Nat}
end
/-! ### str(i), i below 2 ** 12900 -/
end Dt
/-! L20g: len of a dict -/
namespace Dt
open L2 PySem PySem.Spec PyProof.Rows
end Dt
/-! L20h: a value field of a tree, put into a part of the same tree -/
namespace Dt
open L2 PySem PySem.Spec PyProof.Rows
section
variable {X : Cx} {cl : Cl} {wx : WX} {pos : Pos} {c f : Str} {C : Addr} {names : List Str} {j : Nat}
end
end Dt
/-! L21a: calls made while an exception is handled; except clauses whose suite returns -/
namespace Dt
open L2 PySem PySem.Spec PyProof.Rows
/-- room, whether or not an exception is handled -/
structure RoomH (k
      : Nat) (A : Around) : Prop where
  dp : A.depth + (5 + 3 * k) < recursionLimit
  un : A.units + (200 + 16 * k) < cLine
theorem RoomH.mono {j k
      : Nat} {A : Around} (r : RoomH k A) (h : j ≤ k) : RoomH j A := ⟨by have := r.dp; omega, by have := r.un; omega⟩
theorem RoomH.deeper {k
      : Nat} {A : Around} (r : RoomH (k + 1) A) (env : Env) : RoomH k (A.deeper env) :=
  ⟨by have q := r.dp; show A.depth + 1 + (5 + 3 * k) < _; omega, by have q := r.un; show A.units + 3 + (200 + 16 * k) < _; omega⟩
theorem RoomH.room {k : Nat} {A : Around} (r : RoomH k A) : Room k { A with handled := none } := ⟨rfl, by have q := r.dp; show A.depth + 3 * k + 5 < _; omega, by have q := r.un; show A.units + 16 * k + 200 < _; omega⟩
theorem RoomH.of {k : Nat} {A : Around} (r : Room k A) : RoomH k A := ⟨by have q := r.dp; omega, by have q := r.un; omega⟩
structure FnH (P : Program) (w : World) (K : PySem.W.Frag) (mg : Str
      → Option Value) (base : Heap) (CX : CXT) (k : Nat) (f : Addr) (fd : FuncData) (ps : List Str) (sp : Sp) : Prop where
  len : ∀ vs H Q E, sp vs H Q E
        → vs.length = ps.length
  go : ∀ (A : Around) (outer : List Env) (s : Shared) (H : Hp) (args : Args) (us : List Value) (vs : List V) (Q : VK) (E : XK), A.guards = some [] → RoomH k A →
    Env0 P w K mg base A outer s H → BindsTo s fd args (ps.zip us) → Vals vs us → sp vs H Q E → codeAny (model P w) A (.call (.ref f) args) (CR CX outer P w H s Q E) s
section
variable {P : Program} {w : World} {K : PySem.W.Frag} {mg : Str → Option Value} {base : Heap} {CX : CXT} {k j : Nat} {f : Addr} {fd : FuncData} {ps : List Str} {sp sp' : Sp}
theorem FnH.mono (F : FnH P w K mg base CX j f fd ps sp) (h : j ≤ k) : FnH P w K mg base CX k f fd ps sp :=
  ⟨F.len, fun A outer s H args us vs Q E hg hr => F.go A outer s H args us vs Q E hg (hr.mono h)⟩
theorem RoomH.depth {A : Around} (r : RoomH (k + 1) A) : A.depth + 1 < recursionLimit := by
  have := r.dp
  omega
end
section
variable {cl : Cl} {K : PySem.W.Frag}
end
section
variable {X : Cx} {CX : CXT} {k n : Nat} {f : Addr} {fd : FuncData} {ps ks : List Str} {sp : Sp} {dvs : List V} {ds : List Value} {E : L2.St → XK} {x : Str} {p pos : Pos} {e : Expr} {es : List Expr} {t : TA}
end
section
variable {X : Cx} {k n : Nat} {f : Addr} {fd : FuncData} {ps : List Str} {dvs : List V} {ds : List Value} {dd : List D} {x : Str} {p pos : Pos} {e : Expr} {es : List Expr} {cl : Cl} {wx : WX} {fr : S → M (List D × S)} {g : FnD}
end
end Dt
/-! L21b: except clauses whose suite sees the exception as a value, or does not name it -/
namespace Dt
open L2 PySem PySem.Spec PyProof.Rows
section
variable {X
      : Cx} {pins : List (Addr × Obj)} {σ : L2.St} {H : Hp} {s : Shared}
end
section
variable {X : Cx} {n : Str} {i : Nat} {tt : Expr} {body suite : List Stmt} {b₀ : Stmt} {pos pos' : Pos} {tb : WX → TS} {ts : TS} {Wout : WX} {T : Value → Bool → Prop}
end
end Dt
/-! L21c: the same by the data -/
namespace Dt
open L2 PySem PySem.Spec PyProof.Rows
section
variable {X : Cx} {cl : Cl} {wx : WX} {n y : Str} {i m : Nat} {tt : Expr} {body suite : List Stmt} {b₀ : Stmt} {pos pos' : Pos} {F G : S → M Out} {ts us : List Nat}
end
end Dt
/-! L21d: the head's run, asked in three parts (less memory) -/
namespace Dt
open PySem PySem.W PySem.Calls PyProof.Rows HandSHeadRun
end Dt
/-! L21e: own exceptions with two fields -/
namespace Dt
open L2 PySem PySem.Spec PyProof.Rows
section
variable {X : Cx} {C S : Addr} {f g x self : Str} {p1 p2 p3 p4 p5 p6 p7 pos pos1 pos2 pos3 : Pos} {B newId initId : String} {bmB : List Value} {tx : Str} {j : Nat}
end
end Dt
/-! L22a: x, y, z = (a new list, a new tree, a value), any of them in a cell -/
namespace Dt
open L2 PySem PySem.Spec PyProof.Rows
section
variable {X : Cx} {cl : Cl} {wx : WX} {pos : Pos} {a b c : Expr} {f g e : S → M (D × S)}
end
end Dt
/-! L22b: zip over two rows of any kinds that have an iterator (tuple and list mixed) -/
namespace Zg
open PySem
open PySem.Sem (wp)
/-- an iterator of one kind: J says where it stands, R what it walks -/
structure Itr (J : Heap → Addr → Addr → Nat → Prop) (R : Heap → Addr → Array Value → Prop) : Prop where
  at_ : ∀ {h h' : Heap} {a l : Addr} {i : Nat}, J h a l i → (∀ o, h.get? a = some o → h'.get? a = some o) → J h' a l i
  at_R : ∀ {h h' : Heap} {l : Addr} {xs : Array Value}, R h l xs → (∀ o, h.get? l = some o → h'.get? l = some o) → R h' l xs
  ex : ∀ {h : Heap} {a l : Addr} {i : Nat}, J h a l i → ∃ o, h.get? a = some o
  item : ∀ {prog : Program} {w : World} {A : Around} {E : Value → Shared → Prop} {s : Shared} {it l : Addr} {i : Nat} {items : Array Value} {x : Value} {Q : Value → Shared → Prop}, J s.heap it l i → R s.heap l items → items[i]? = some x →
    (∀ h', J h' it l (i + 1) → Heap.SameBut it s.heap h' → Q x { s with heap := h' }) → wpAny (model prog w) A (Builtin.SmallTypes.nextOf (.ref it)) Q E s
  stop : ∀ {prog : Program} {w : World} {A : Around} {E : Value → Shared → Prop} {s : Shared} {it l : Addr} {i : Nat} {items : Array Value} {Q : Value → Shared → Prop}, A.handled = none → J s.heap it l i → R s.heap l items → items[i]? = none →
    (∀ h' e, Heap.ExtBut it s.heap h'
          → (∃ o, h'.get? e = some o ∧ o.cls = .type "StopIteration") → E (.ref e) { s with heap := h' }) → wpAny (model prog w) A (Builtin.SmallTypes.nextOf (.ref it)) Q E s
theorem Itr.ext {J : Heap → Addr → Addr → Nat → Prop} {R : Heap → Addr → Array Value → Prop} (I : Itr J R) {h h' : Heap} {a b l : Addr} {i : Nat} (x : J h a l i) (hs : Heap.ExtBut b h h') (ne : a ≠ b) : J h' a l i := I.at_ x fun o e => hs a o ne e
section
variable {prog : Program} {w : World} {A : Around} {E : Value → Shared → Prop} {s : Shared} {J1 J2 : Heap → Addr → Addr → Nat → Prop} {R1 R2 : Heap → Addr → Array Value → Prop}
end
section
variable {prog : Program} {w : World} {A : Around} {E : Value
      → Shared → Prop} {s : Shared}
end
end Zg
namespace Zg
open PySem PySem.Spec PyProof.Rows L2 RZ
end Zg
namespace Dt
open L2 PySem PySem.Spec PyProof.Rows
/-! ### zip of a tuple and a list -/
section
variable {X : Cx} {K : PySem.W.Frag} {cl : Cl} {wx : WX} {pos p : Pos} {e : Expr} {fr : S → M (List D × S)}
end
end Dt
/-! L23a: a and super().m(..), as a value -/
namespace Dt
open L2 PySem PySem.Spec PyProof.Rows
section
variable {X : Cx} {bd : List Stmt} {a b : Expr} {pos : Pos} {ta tb : TE} {K : PySem.W.Frag} {cl : Cl} {wx : WX} {fa fb : S → M (D × S)}
end
end Dt
/-! L23b: a method def m(self, a, *v, k, l = ..) called as o.m(e, ..., k = x, l = y) -/
namespace Dt
open L2 PySem PySem.Spec PyProof.Rows
def spSK (K : PySem.W.Frag) (cl : Cl) (g : FnD) (vs zs : List V) (H : Hp) (Q : VK) (E : XK) : Prop := ∃ (O : List Addr) (v0 v1 : V) (rest : List V) (z0 z1 : V) (d0 d1 : D) (ds : List D) (e0 e1 : D),
  vs = v0 :: v1 :: rest ∧ zs = [z0, z1] ∧ (∀ a ∈ O, H a ≠ none) ∧ Rp K cl (hide O H) v0 d0 ∧ Rp K cl (hide O H) v1 d1 ∧ RpA K cl (hide O H) rest ds ∧ Rp K cl (hide O H) z0 e0 ∧ Rp K cl (hide O H) z1 e1 ∧ ds.length ≤ sizeLine ∧ FinD K cl O H Q E (g [d0, d1, e0, e1, .tup ds])
structure FnSK (P : Program) (w : World) (K : PySem.W.Frag) (cl : Cl) (mg : Str → Option Value) (base : Heap) (k : Nat) (f : Addr) (ks : List Str) (g : FnD) : Prop where
  go : ∀ (A : Around) (outer : List Env) (s : Shared) (H : Hp) (us ws : List Value) (vs zs : List V) (Q : VK) (E : XK), A.guards = some [] → Room k A →
    Env0 P w K mg base A outer s H → Vals vs us → Vals zs ws → spSK K cl g vs zs H Q E → codeAny (model P w) A (.call (.ref f) ⟨us, ks.zip ws⟩) (CR (L2.CX P w) outer P w H s Q E) s
theorem FnSK.mono {P : Program} {w : World} {K : PySem.W.Frag} {cl : Cl} {mg : Str → Option Value} {base : Heap} {k j : Nat} {f : Addr} {ks : List Str} {g : FnD} (F : FnSK P w K cl mg base j f ks g) (h : j ≤ k) : FnSK P w K cl mg base k f ks g :=
  ⟨fun A outer s H us ws vs zs Q E hg hr => F.go A outer s H us ws vs zs Q E hg (hr.mono h)⟩
section
variable {X : Cx} {k : Nat} {f C : Addr} {m c : Str} {pos apos : Pos} {e o : Expr} {es : List Expr} {ks names : List Str} {kws : List Keyword} {cl : Cl} {wx : WX} {fo : S → M (D × S)} {fr fk : S → M (List D × S)} {g : FnD}
end
end Dt
/-! L23c: a constant of the module that is a tuple of texts -/
namespace Dt
open L2 PySem PySem.Spec PyProof.Rows
section
variable {X : Cx} {cl : Cl} {wx : WX}
end
end Dt
/-! L22d: zip of a list and a tuple -/
namespace Zg
open PySem
open PySem.Sem (wp)
section
variable {prog : Program} {w : World} {A : Around} {E : Value
      → Shared → Prop} {s : Shared}
end
end Zg
namespace Zg
open PySem PySem.Spec PyProof.Rows L2 RZ
end Zg
namespace Dt
open L2 PySem PySem.Spec PyProof.Rows
/-! ### zip of a list and a tuple -/
section
variable {X : Cx} {K : PySem.W.Frag} {cl : Cl} {wx : WX} {pos p : Pos} {e : Expr} {fr : S → M (List D × S)}
end
end Dt
/-! L24a: a for loop over a generator whose first statement raises -/
namespace Dt
open PySem PySem.Spec PyProof.Rows L2 GenW
section
variable {X : Cx} {pins : List (Addr × Obj)} {σ : L2.St} {H : Hp} {sc s' : Shared} {g : GD} {vs : List V} {a : Addr} {gi : Nat} {go : Obj} {E : XK}
end
def nsB (K : PySem.W.Frag) (c : Str) : Bool := decide (PySem.W.subIn K (.ref (He.ga K c)) (.type "StopIteration") = some false)
section
variable {X : Cx} {cl : Cl} {wx : WX} {tg it : Expr} {body : List Stmt} {pos : Pos} {fa : S → M (List D × S)} {F : S → M Out} {g : GD} {k n : Nat} {f : Addr} {fd : FuncData} {ps : List Str}
end
end Dt
/-! L24b: a generator def whose first statement may raise; one rule or another for a statement -/
namespace Dt
open PySem PySem.Spec PyProof.Rows L2 GenW
section
variable {P : Program} {w : World} {K : PySem.W.Frag} {mg : Str → Option Value} {base : Heap} {f : Addr} {fd : FuncData} {ps N : List Str} {x qual : Str} {params : Arguments} {body : List Stmt} {scope : Scope} {dvs : List V} {kws : List (Str × V)} {k : Nat} {cl : Cl} {B : GM} {F : S → M Out} {st : Stmt} {rest : List Stmt}
end
/-! ### one rule or another for a statement -/
section
variable {X : Cx} {cl : Cl} {wx : WX} {st : Stmt} {ts us : List Nat} {f g : S → M Out}
theorem PostS.le {w : Wf} {L : List Addr} {σ : L2.St} {H : Hp} {D : Ends} {vs : List Nat} (hv : ∀ i ∈ ts, i ∈ vs) : ∀ {m : M Out}, PostS X.K cl wx vs w L σ H D m → PostS X.K cl wx ts w L σ H D m
  | none, h => h.elim
  | some (.ex _ _), h => h
  | some (.ok (.nx _)), h => fun L' σ' H' a b c => h L' σ' H' a b (c.le hv)
  | some (.ok (.bk _)), h => fun L' σ' H' a b c => h L' σ' H' a b (c.le hv)
  | some (.ok (.ct _)), h => fun L' σ' H' a b c => h L' σ' H' a b (c.le hv)
  | some (.ok (.rt _ _)), h => h
  | some (.ok (.rf _ _)), h => h
end
end Dt
/-! L24c: repr of data with empty dicts within -/
namespace Dt
open L2 PySem PySem.Spec PyProof.Rows
section
variable {X : Cx} {cl : Cl} {pins : List (Addr × Obj)} {σ : L2.St} {H : Hp} {s : Shared}
end
section
variable {X : Cx} {cl : Cl}
end
end Dt
/-! L24d: isinstance of any datum, dicts and objects too, by a table of answers -/
namespace Dt
open L2 PySem PySem.Spec PyProof.Rows
def tyE : D → Option String
  | .dic _ _ => some "dict"
  | .non => some "NoneType"
  | .bl _ => some "bool"
  | .int _ => some "int"
  | .str _ => some "str"
  | .lst _ => some "list"
  | .tup _ => some "tuple"
  | _ => none
theorem tyE_of {K : PySem.W.Frag} {cl : Cl} {O : List Addr} {H : Hp} {v : V} {d : D} {n : String} (r : Rp K cl (hide O H) v d) (h : tyE d = some n) : TyX K H v (.type n) := by
  cases d with
  | dic ks ds =>
    cases h
    cases Rp.mono hide_le r with
    | dic q _ _ =>
      rcases q with z | ⟨o, z⟩
      · exact .base (.dK z)
      · exact .fDict z
  | non => exact ty_of r h
  | bl b => exact ty_of r h
  | int i => exact ty_of r h
  | str x => exact ty_of r h
  | lst xs => exact ty_of r h
  | tup xs => exact ty_of r h
  | _ => cases h
def isA (tb : List (Str × Bool)) (tt : List (String × Bool)) (d : D) : M D := match tyC d with
  | some c => (match tb.lookup c with
    | some b => ok (.bl b)
    | none => none)
  | none => (match tyE d with
    | some n => (match tt.lookup n with
      | some b => ok (.bl b)
      | none => none)
    | none => none)
def dIsA (tb : List (Str × Bool)) (tt : List (String × Bool)) (f : S → M (D × S)) : S → M (D × S) := fun s => bd (f s) fun p => bd (isA tb tt p.1) fun r => ok (r, p.2)
section
variable {X : Cx} {cl : Cl} {wx : WX} {pos p0 p2 : Pos} {e : Expr} {f : S → M (D × S)} {x : Str} {C0 : Addr}
theorem isA_ty {tb : List (Str × Bool)} {tt : List (String × Bool)} {cv : Value} (kt : ∀ c b, tb.lookup c = some b → ∃ C names, cl c = some (C, names) ∧ C8.InsC X.K C ∧ PySem.W.kitOne X.K (.ref C) cv = some b)
    (kn : ∀ n b, tt.lookup n = some b → PySem.W.kitOne X.K (.type n) cv = some b) {O : List Addr} {H : Hp} {v : V} {d r : D} (rr : Rp X.K cl (hide O H) v d) (h : isA tb tt d = ok r) : ∃ (t : Value) (b : Bool), r = .bl b ∧ TyX X.K H v t ∧ PySem.W.kitOne X.K t cv = some b := by
  unfold isA at h
  split at h
  · next c hc0 =>
    split at h
    · next b hb =>
      cases h
      obtain ⟨C, names, hc, ic, hk⟩ := kt c b hb
      cases rr with
      | obj k0 e0 n0 r0 =>
        cases hc0
        rw [hc] at k0
        cases k0
        exact ⟨_, b, rfl, .base (.ins (hide_some.mp e0).2 ic.cl ic.ha ic.hn ic.htk ic.hm), hk⟩
      | _ => cases hc0
    · cases h
  · split at h
    · next n e1 =>
      split at h
      · next b e2 =>
        cases h
        exact ⟨_, b, rfl, tyE_of rr e1, kn n b e2⟩
      · cases h
    · cases h
theorem isA_cases (tb : List (Str × Bool)) (tt : List (String × Bool)) (d : D) : isA tb tt d = none ∨ ∃ r, isA tb tt d = ok r := by
  unfold isA
  split
  · split
    · exact .inr ⟨_, rfl⟩
    · exact .inl rfl
  · split
    · split
      · exact .inr ⟨_, rfl⟩
      · exact .inl rfl
    · exact .inl rfl
theorem d_isA (tb : List (Str × Bool)) (tt : List (String × Bool)) (kt : ∀ c b, tb.lookup c = some b → ∃ C names, cl c = some (C, names) ∧ C8.InsC X.K C ∧ PySem.W.kitOne X.K (.ref C) (.ref C0) = some b)
    (kn : ∀ n b, tt.lookup n = some b → PySem.W.kitOne X.K (.type n) (.ref C0) = some b) (he : PE X e (TEof X.K cl wx f)) (hm : X.mg "isinstance" = none) (hx : X.mg x = some (.ref C0)) (hb : bootBuiltins "isinstance" = some (.builtin "isinstance")) (hg : Gl X "isinstance" := by rfl) (hgx : Gl X x := by rfl)
    (hd : (x == ("__debug__" : Str)) = false := by decide) (h1 : starEach [e, .Name x p2] X.env = (false, eval e X.env) :: starEach [.Name x p2] X.env := by rfl) (h2 : starEach [.Name x p2] X.env = (false, eval (.Name x p2) X.env) :: starEach [] X.env := by rfl)
    (hpl : (backTo pos (starEach [.Name x p2] X.env)).any (·.1) = false := by rfl) : PE X (.Call (.Name "isinstance" p0) [e, .Name x p2] [] pos) (TEof X.K cl wx (dIsA tb tt f)) := by
  refine iE (pe_callB call_isi hg hm hb (pa_cons he (pa_cons (pe_glob hgx hx (v := .ref C0) rfl hd) pa_nil h2) h1) (by decide) (by decide) h1 hpl) ?_
  rintro σ H Q ⟨w, L, sd, W, h⟩
  refine ⟨w, L, sd, W, PostE.bd botE h fun r s1 h v H1 st1 W1 rr => ?_⟩
  have h' := h.fin st1 W1
  clear h
  rcases isA_cases tb tt r with q | ⟨r2, q⟩
  · rw [q] at h'
    exact h'.elim
  · rw [q] at h'
    obtain ⟨t, b, rfl, ty, hk⟩ := isA_ty kt kn rr q
    exact ⟨v, .ref C0, _, _, b, rfl, .own C0, ty, hk, h'.now (.bl b)⟩
theorem d_isAT {T : String} (tb : List (Str × Bool)) (tt : List (String × Bool)) (kt : ∀ c b, tb.lookup c = some b → ∃ C names, cl c = some (C, names) ∧ C8.InsC X.K C ∧ PySem.W.kitOne X.K (.ref C) (.type T) = some b)
    (kn : ∀ n b, tt.lookup n = some b → PySem.W.kitOne X.K (.type n) (.type T) = some b) (he : PE X e (TEof X.K cl wx f)) (hm : X.mg "isinstance" = none) (hT : X.mg x = none) (hv : bootBuiltins x = some (.type T)) (hb : bootBuiltins "isinstance" = some (.builtin "isinstance")) (hg : Gl X "isinstance" := by rfl) (hx : Gl X x := by rfl)
    (hn : x ≠ "__name__" := by decide) (hd : (x == ("__debug__" : Str)) = false := by decide) (h1 : starEach [e, .Name x p2] X.env = (false, eval e X.env) :: starEach [.Name x p2] X.env := by rfl) (h2 : starEach [.Name x p2] X.env = (false, eval (.Name x p2) X.env) :: starEach [] X.env := by rfl)
    (hpl : (backTo pos (starEach [.Name x p2] X.env)).any (·.1) = false := by rfl) : PE X (.Call (.Name "isinstance" p0) [e, .Name x p2] [] pos) (TEof X.K cl wx (dIsA tb tt f)) := by
  refine iE (pe_callB call_isi hg hm hb (pa_cons he (pa_cons (pe_bltn hx hT hv (v := .ty T) rfl hn hd) pa_nil h2) h1) (by decide) (by decide) h1 hpl) ?_
  rintro σ H Q ⟨w, L, sd, W, h⟩
  refine ⟨w, L, sd, W, PostE.bd botE h fun r s1 h v H1 st1 W1 rr => ?_⟩
  have h' := h.fin st1 W1
  clear h
  rcases isA_cases tb tt r with q | ⟨r2, q⟩
  · rw [q] at h'
    exact h'.elim
  · rw [q] at h'
    obtain ⟨t, b, rfl, ty, hk⟩ := isA_ty kt kn rr q
    exact ⟨v, .ty T, _, _, b, rfl, .ty T, ty, hk, h'.now (.bl b)⟩
end
end Dt
/-! L24e: a `for` over a generator that ends within k + 1 items or is left by then: a mirror that can be computed -/
namespace Dt
open PySem PySem.Spec PyProof.Rows L2 GenW
section
variable {X : Cx} {cl : Cl} {wx : WX} {st : Stmt} {us : List Nat} {fa : S → M (List D × S)} {B : GM} {m : Nat} {T : D → S → M S} {F : S → M Out}
end
end Dt
/-! L24f: C(e, ..) and cls( *e): a new tree by __init__(self, *v) that may raise -/
namespace Dt
open L2 PySem PySem.Spec PyProof.Rows
section
variable {X : Cx} {k : Nat} {f C : Addr} {x c : Str} {p pos sp_ : Pos} {e : Expr} {es : List Expr} {cl : Cl} {wx : WX} {fr : S → M (List D × S)} {fe : S → M (D × S)} {gI : D → List D → M (D × D)} {names : List Str}
end
end Dt
/-! L24h: xs[::2] and xs[1::2] -/
namespace Dt
open L2 PySem PySem.Spec PyProof.Rows
section
variable {X : Cx} {e : Expr} {te : TE} {k k2 : Nat} {p1 p2 p3 pos : Pos}
end
section
variable {X : Cx} {cl : Cl} {wx : WX} {a : Expr} {fa : S → M (D × S)} {k k2 : Nat} {p1 p2 p3 pos : Pos}
end
end Dt
/-! L24i: tuple(range(n)); isinstance(x, (a, b)) of dicts too -/
namespace Dt
open L2 PySem PySem.Spec PyProof.Rows
def isTUE (T U : String) (d : D) : M D := match tyE d with
  | some a => match kitB a T, kitB a U with
    | some b, some c => ok (.bl (b || c))
    | _, _ => none
  | none => none
def dIsiTUE (T U : String) (f : S → M (D × S)) : S → M (D × S) := fun s => bd (f s) fun p => bd (isTUE T U p.1) fun r => ok (r, p.2)
section
variable {X : Cx} {cl : Cl} {wx : WX} {pos p0 p2 : Pos} {e : Expr} {f : S → M (D × S)}
end
section
variable {X : Cx} {cl : Cl} {wx : WX} {pos p p2 pos2 : Pos} {a : Expr} {fr : S → M (List D × S)}
end
end Dt
/-! L24j: a try that keeps one own list, made before it -/
namespace Dt
open L2 PySem PySem.Spec PyProof.Rows
section
variable {K : PySem.W.Frag} {cl : Cl} {w : Wf} {L L1 : List Addr} {sd s1 : S} {σ σ1 : L2.St} {H H1 : Hp} {m : Nat} {d d' : D}
end
section
variable {X : Cx} {cl : Cl} {wx : WX} {n y : Str} {i j m : Nat} {tt : Expr} {body : List Stmt} {pos pos' pos2 pn py : Pos} {F : S → M Out} {ts : List Nat}
end
end Dt
/-! L24k: a `for` over new dicts in a frame that also holds tables of code objects -/
namespace Dt
open L2 PySem PySem.Spec PyProof.Rows
section
variable {X : Cx} {cl : Cl} {wx : WX} {pos p0 : Pos} {body : List Stmt} {ts : List Nat} {F : S → M Out} {fi : S → M (D × S)} {it : Expr}
end
end Dt
/-! L25a: f(x, ..) that changes x, an own dict, and makes a tree; o.m() that makes a tree -/
namespace Dt
open L2 PySem PySem.Spec PyProof.Rows
section
variable {K : PySem.W.Frag} {cl : Cl}
end
section
variable {X : Cx} {k n : Nat} {f : Addr} {fd : FuncData} {ps : List Str} {x : Str} {p pos : Pos} {e : Expr} {es : List Expr} {cl : Cl} {wx : WX} {fr : S → M (List D × S)} {gI : D → List D → M (D × D)}
end
/-! ### o.m(), m makes a tree -/
section
variable {X : Cx} {k n : Nat} {f C : Addr} {fd : FuncData} {ps : List Str} {dvs : List V} {ds : List Value} {dd : List D} {m c : Str} {pos apos : Pos} {o : Expr} {cl : Cl} {wx : WX} {fo : S → M (D × S)} {fr : S → M (List D × S)} {g : FnD} {names : List Str}
end
end Dt
/-! L25b: a statement that sees everything (trees too) as values and changes one own list -/
namespace Dt
open L2 PySem PySem.Spec PyProof.Rows
section
variable {K : PySem.W.Frag} {cl : Cl} {w : Wf} {L L1 : List Addr} {sd s1 : S} {σ σ1 : L2.St} {H H1 : Hp} {m : Nat} {d d' : D} {ts : List Nat}
end
section
variable {X : Cx} {cl : Cl} {wx : WX} {st : Stmt} {F : S → M Out} {ts us : List Nat}
end
end Dt
/-! L25c: {k: e for k in x.f if t}, f's value a dict; new lists and dicts of flat things made in a view -/
namespace Dt
open L2 PySem PySem.Spec PyProof.Rows
section
variable {X : Cx} {K : PySem.W.Frag} {cl : Cl} {wx : WX}
end
/-! ### for k in x.f -/
section
variable {K : PySem.W.Frag} {cl : Cl} {wx : WX} {σ : L2.St} {H : Hp} {a b C dx : Addr} {kvs : List (Key × V)} {od : Obj} {fvs : List (Str × V)} {c f : Str} {names : List Str} {j : Nat}
end
section
variable {X : Cx} {cl : Cl} {wx : WX} {pos apos : Pos} {tg : Expr} {c f : Str} {C : Addr} {names : List Str} {j : Nat}
end
end Dt
/-! L26a: o.m(..), m a staticmethod of o's class; a new object of flat fields made in a view -/
namespace Dt
open L2 PySem PySem.Spec PyProof.Rows
/-! ### C.m(e, ..) and C.m() of a classmethod def m(cls, *v) -/
def dCMethV (c : Str) (g : FnD) (fr : S → M (List D × S)) : S → M (D × S) := fun s => bd (fr s) fun p => if p.1.length ≤ sizeLine then bdC (g [.cls c, .tup p.1]) p.2 fun r => ok (r, p.2) else none
section
variable {X : Cx} {k : Nat} {C p g : Addr} {sp : Sp} {mc : Value} {m c x : Str} {p0 pos apos : Pos} {e : Expr} {es : List Expr} {cl : Cl} {wx : WX} {fr : S → M (List D × S)} {gf : FnD} {names : List Str}
theorem run_cmV {pins : List (Addr × Obj)} {σ : L2.St} {H : Hp} {s : Shared} {q : Addr} {E : XK} {Q : VK} {us : List Value} {vs : List V} (F : FnV X.prog X.w X.K X.mg X.base k g sp) (hgd : X.A.guards = some []) (hr : Room k X.A) (hx : PassesAt (L2.CX X.prog X.w) X σ E) (I : Inv X ((q, PySem.W.methodObj (.ref g) (.ref C)) :: pins) σ H s)
    (r : Vals vs us) (h
          : sp (.ref C :: vs) H Q E) : wpAny (model X.prog X.w) X.A (call (.ref q) us) (EP X pins σ Q) X.xe s := by
  have go := F.go X.A X.stack s H (.ref C :: us) (.ref C :: vs) Q E hgd hr I.env0 (.cons rfl r) h
  have z : wpAny (model X.prog X.w) X.A (call (.ref q) us) (EP X ((q, PySem.W.methodObj (.ref g) (.ref C)) :: pins) σ Q) X.xe s := by
    refine wpAny_call (PySem.W.method_call (ClX.pin_at I) (codeAny_mono go fun r s' hq => ?_))
    have q := ret_of hx I r s' hq
    match r, q with
    | .error e, q => exact q
    | .ok (.ret u), q => exact q
  exact thn z fun _ _ y => ClX.unpinE y
theorem d_cmethV {pl : Sem Bool} (kc : ClsD X.K cl c C names) (r : ClX.CRead X.K C mc) (cm : ClX.CMet X.K C mc m p g) (F : FnV X.prog X.w X.K X.mg X.base k g (spW X.K cl gf)) (hgd : X.A.guards = some []) (hr : Room k X.A) (hm : X.mg x = some (.ref C))
    (ha : PA X (e :: es) (TAof X.K cl wx fr)) (hg : Gl X x := by rfl) (hdb : (x == ("__debug__" : Str)) = false := by decide) (hst : starEach (e :: es) X.env = (false, eval e X.env) :: starEach es X.env := by rfl) (hpl : (backTo pos (starEach es X.env)).any (·.1) = false := by rfl)
    (ht : eval (.Call (.Attribute (.Name x p0) m apos) (e :: es) [] pos) X.env = (do
      let ov ← eval (.Name x p0) X.env
      standAt apos.atName
      let (f, first) ← holding [ov]
            (getMethod ov m pl)
      callWith pos f first (backTo pos (starEach (e :: es) X.env)) (backToKw pos (keywordEach [] X.env))) := by rfl) (tk : Takes X wx := by first | assumption | exact takes_no) :
    PE X (.Call (.Attribute (.Name x p0) m apos) (e :: es) [] pos) (TEof X.K cl wx (dCMethV c gf fr)) := by
  constructor
  intro pins s σ H Q I h
  obtain ⟨w, L, sd, W, h⟩ := h
  unfold dCMethV at h
  refine PySem.W.methodCall_KW (pl := pl) (ld_glob I hg hm ?_ hdb) ht
  refine ClX.getmethcm_ok I r cm fun s2 I2 => ?_
  refine ClX.callwith_cm I2 (ClX.base_none I (Nat.le_refl _)) cm.fi (thn (ha.run pos _ s2 σ H (fun vs H2 => spW X.K cl gf (.ref C :: vs) H2 Q (WE wx σ)) I2 ?_) fun us s3 ⟨vs, H2, I3, rv, q2⟩ => ⟨⟨ClX.pin_at I3, I3.kIn⟩, run_cmV F hgd hr (passAt tk σ) I3 rv q2⟩) hst hpl
  refine ⟨w, L, sd, W, PostA.bd botE h fun rs s1 h vs H1 st1 W1 rrs => ?_⟩
  dsimp only at h
  split at h
  · next c1 => exact ⟨L ++ w.O0, .ref C, vs, .cls c, rs, rfl, W1.alive, .cls kc.at_, rrs, c1, h.finC st1 W1⟩
  · exact h.elim
theorem d_cmethV0 {pl : Sem Bool} (kc : ClsD X.K cl c C names) (r : ClX.CRead X.K C mc) (cm : ClX.CMet X.K C mc m p g) (F : FnV X.prog X.w X.K X.mg X.base k g (spW X.K cl gf)) (hgd : X.A.guards = some []) (hr : Room k X.A) (hm : X.mg x = some (.ref C)) (hg : Gl X x := by rfl) (hdb : (x == ("__debug__" : Str)) = false := by decide)
    (ht : eval (.Call (.Attribute (.Name x p0) m apos) [] [] pos) X.env = (do
      let ov ← eval (.Name x p0) X.env
      standAt apos.atName
      let (f, first) ← holding [ov]
            (getMethod ov m pl)
      callWith pos f first (backTo pos (starEach [] X.env)) (backToKw pos (keywordEach [] X.env))) := by rfl) (tk : Takes X wx := by first | assumption | exact takes_no) :
    PE X (.Call (.Attribute (.Name x p0) m apos) [] [] pos) (TEof X.K cl wx (dCMethV c gf aNil)) := by
  constructor
  intro pins s σ H Q I h
  obtain ⟨w, L, sd, W, h⟩ := h
  have h : PostE X.K cl wx w L σ H Q (if ([] : List D).length ≤ sizeLine then bdC (gf [.cls c, .tup []]) sd fun r => ok (r, sd) else none) := h
  simp only [List.length_nil, Nat.zero_le, if_true] at h
  refine PySem.W.methodCall_KW (pl := pl) (ld_glob I hg hm ?_ hdb) ht
  refine ClX.getmethcm_ok I r cm fun s2 I2 => ?_
  refine PySem.W.callWith_M0 (self := .ref C) ⟨ClX.pin_at I2, I2.kIn⟩ cm.fi ?_
  have q : spW X.K cl gf (.ref C :: []) H Q (WE wx σ) := ⟨L ++ w.O0, .ref C, [], .cls c, [], rfl, W.alive, .cls kc.at_, .nil, Nat.zero_le _, h.finC .refl W⟩
  exact run_cmV F hgd hr (passAt tk σ) I2 .nil q
end
section
variable {X : Cx} {pins : List (Addr × Obj)} {σ : L2.St} {H : Hp} {s : Shared} {a C dx p g : Addr} {fs : List (Str × V)} {m : Str} {A : Around} {E : Value → Shared → Prop}
end
section
variable {X : Cx} {k n : Nat} {C p g : Addr} {fd : FuncData} {ps : List Str} {dvs : List V} {ds : List Value} {dd : List D} {m c : Str} {pos apos : Pos} {e o : Expr} {es : List Expr} {cl : Cl} {wx : WX} {fo : S → M (D × S)} {fr : S → M (List D × S)} {gf : FnD} {names : List Str}
end
/-! ### a new object of flat fields, made in a view -/
section
variable {X : Cx} {K : PySem.W.Frag} {cl : Cl} {wx : WX}
end
section
variable {n i j : Nat} {tb : List (Str × Bool)} {F : S → M Out} {s s1 : S} {e : Ex} {o : Out}
theorem tryE_none (hl : s.length = n) (h : F (maskS s) = none) : sTryE n i j tb F s = none := by
  unfold sTryE
  rw [if_pos hl, h]
theorem tryE_ok (hl : s.length = n) (h : F (maskS s) = some (.ok o)) : sTryE n i j tb F s = some (.ok o) := by
  unfold sTryE
  rw [if_pos hl, h]
theorem tryE_ex (hl : s.length = n) (h : F (maskS s) = some (.ex e s1)) (h1 : tb.lookup e.c = some true) (h2 : e.fs ≠ []) (h3 : s1.length = n) : sTryE n i j tb F s = ok (.nx ((s1.set j (.val (.err e.c e.fs))).set i .un)) := by
  unfold sTryE
  rw [if_pos hl, h]
  simp only [h1]
  rw [if_pos ⟨h2, h3⟩]
theorem tryE_nil (hl : s.length = n) (h : F (maskS s) = some (.ex e s1)) (h1 : ∀ p ∈ tb, p.2 = true) (h2 : e.fs = []) : sTryE n i j tb F s = none := by
  unfold sTryE
  rw [if_pos hl, h]
  cases q : tb.lookup e.c with
  | none => simp only [q]
  | some b =>
    have hb : b = true := by
      have : ∀ (l : List (Str × Bool)), l.lookup e.c = some b → (e.c, b) ∈ l := by
        intro l
        induction l with
        | nil => intro z; cases z
        | cons x l ih =>
          intro z
          obtain ⟨x1, x2⟩ := x
          rw [List.lookup] at z
          split at z
          · next hb => cases z; rw [beq_iff_eq.mp hb]; exact List.mem_cons_self
          · exact List.mem_cons_of_mem _ (ih z)
      exact h1 _ (this _ q)
    subst hb
    simp only [q]
    rw [if_neg fun z => z.1 h2]
theorem tryE_no (hl : s.length = n) (h : F (maskS s) = some (.ex e s1)) (h1 : tb.lookup e.c = none) : sTryE n i j tb F s = none := by
  unfold sTryE
  rw [if_pos hl, h]
  simp only [h1]
end
end Dt
/-! L26b: a list that is a value, times an int -/
namespace Dt
open L2 PySem PySem.Spec PyProof.Rows
section
variable {X : Cx}
end
section
variable {X : Cx} {K : PySem.W.Frag} {cl : Cl} {wx : WX} {pos : Pos} {a b : Expr} {fa fb : S → M (D × S)}
end
end Dt
/-! L26c: repr of any datum -/
namespace Dt
open L2 PySem PySem.Spec PyProof.Rows
section
variable {X : Cx} {cl : Cl}
end
end Dt
/-! L27a: v, p, q = e, (x, y)[k], (y, x)[m]: two own objects change their names -/
namespace Dt
open L2 PySem PySem.Spec PyProof.Rows
section
variable {K : PySem.W.Frag} {cl : Cl} {w : Wf} {L : List Addr} {s : S} {σ : L2.St} {H : Hp}
end
section
variable {X : Cx} {cl : Cl} {wx : WX} {pos : Pos} {e0 e1 e2 : Expr} {f0 f1 f2 : S → M (D × S)}
end
end Dt
/-! L28a: a tuple whose object is laid bare (tz): tuple(list), its count -/
namespace Dt
open L2 PySem PySem.Spec PyProof.Rows
def kTupZ (K : PySem.W.Frag) (x : V) (H : Hp) (Q : VK) : Prop :=
  ∃ p xs, x = .ref p ∧ SqL K H p xs ∧ ∀ q ob, H q = none → ob.cls = .type "tuple" → ob.dict = none → Q (.ref q) (upd H q (.frz ob (.tup xs)))
section
variable {X
      : Cx} {a : Expr} {ta : TE}
theorem rl_tupZ (pins : List (Addr × Obj)) (s : Shared) (σ : L2.St) (H : Hp) (x : V) (v : Value) (Q : VK) (I : Inv X pins σ H s) (r : RelV x v) (h : kTupZ X.K x H Q) :
    wpAny (model X.prog X.w) X.A
          (call (.type "tuple") [v]) (EP X pins σ Q) X.xe s := by
  obtain ⟨p, xs, rfl, hs, q⟩ := h
  obtain rfl : v = .ref p := r
  (obtain ⟨its, rv, pl, hz⟩ := I.list hs)
  (refine call_tuple_list pl.isList (fun h' hk => ?_) (by rw [List.size_toArray, ← rv.length]; exact hz))
  (have I1 : Inv X pins σ H { s with heap := h' } := I.kept (t' := s.toks) hk)
  have I2 : Inv X pins σ (upd H h'.objs.size (.frz { cls := .type "tuple", data := .seq its.toArray } (.tup xs))) { s with heap := h'.push { cls := .type "tuple", data := .seq its.toArray } } :=
    I1.laid (t' := s.toks) (fun b o e => Heap.get?_push_of_some _ e) (Nat.le_refl _)
      (show ObjOk X.prog X.w _ _ _ (.frz _ (.tup xs)) from ⟨Heap.get?_push_size _ rfl, hz, its, rv, IsTup.new _ _⟩)
  exact ⟨.ref h'.objs.size, _, I2, rfl, q _ _ (I1.hok.fresh (Nat.le_refl _)) rfl rfl⟩
theorem pe_tupZ {p pos : Pos} (hg : Gl X "tuple") (hm : X.mg "tuple" = none) (ha : PE X a ta) (na : starEach [a] X.env = (false, eval a X.env) :: starEach [] X.env := by rfl) :
    PE X (.Call (.Name "tuple" p) [a] [] pos) (tThen ta (kTupZ X.K)) := by
  (refine ⟨fun pins s σ H Q I h => ?_⟩)
  exact Call_ (ld_blt I hg hm boot_tuple (PyProof.Rows.callWith_type1 (one_arg ha I h (fun v s2 x H2 I2 r q => rl_tupZ pins s2 σ H2 x v Q I2 r q) na) na))
end
def dTupZ (f : S → M (D × S)) : S → M (D × S) := fun s => bd (f s) fun p => match p.1 with
  | .lst ds => ok (.tz ds, p.2)
  | _ => none
def D.unz : D → D
  | .tz ds => .tup ds
  | d => d
def dUnz (f : S → M (D × S)) : S → M (D × S) := fun s => bd (f s) fun p => ok (p.1.unz, p.2)
def dCntZ (fa fb : S → M (D × S)) : S → M (D × S) := fun s => bd (fa s) fun p => match p.1 with
  | .tz xs => bd (fb p.2) fun q => bd (cntD (.lst xs) q.1) fun r => ok (r, q.2)
  | _ => none
theorem Rp.unz {K : PySem.W.Frag} {cl : Cl} {H : Hp} {v : V} {d : D} (r : Rp K cl H v d) : Rp K cl H v d.unz := by
  cases r with
  | tz h c d r => exact .tup (.inl (.inr ⟨_, h⟩)) r
  | non => exact .non
  | bl b => exact .bl b
  | int i => exact .int i
  | str x => exact .str x
  | lst a b => exact .lst a b
  | tup a b => exact .tup a b
  | obj a b c d => exact .obj a b c d
  | dic a b c => exact .dic a b c
  | reg a b => exact .reg a b
  | err a b c d e f => exact .err a b c d e f
  | cls a => exact .cls a
  | tab => exact .tab
  | fn a b => exact .fn a b
section
variable {X : Cx} {cl : Cl} {wx : WX} {a o e : Expr} {f fa fb : S → M (D × S)} {p pos apos cpos : Pos}
theorem d_tupZ (hm : X.mg "tuple" = none) (ha : PE X a (TEof X.K cl wx f)) (hg : Gl X "tuple" := by rfl) (na : starEach [a] X.env = (false, eval a X.env) :: starEach [] X.env := by rfl) :
    PE X (.Call (.Name "tuple" p) [a] [] pos) (TEof X.K cl wx (dTupZ f)) := by
  refine iE (pe_tupZ hg hm ha na) ?_
  rintro σ H Q ⟨w, L, sd, W, h⟩
  refine ⟨w, L, sd, W, PostE.bd botE h fun x s1 h v H1 st1 W1 rx => ?_⟩
  cases rx with
  | @lst ad xs ds sq rs =>
    refine ⟨_, _, rfl, hide_le.seq sq, fun q ob nq c d => ?_⟩
    have sm := same_upd (o := .frz ob (.tup xs)) nq
    exact h _ _ (st1.trans (.of_same sm)) (W1.ext sm) (.tz (hide_new W1.alive nq) c d (rs.mono (hide_upd nq)))
  | _ => exact h.elim
theorem d_unz (he : PE X e (TEof X.K cl wx f)) : PE X e (TEof X.K cl wx (dUnz f)) := by
  refine iE he ?_
  rintro σ H Q ⟨w, L, sd, W, h⟩
  exact ⟨w, L, sd, W, PostE.bd botE h fun x s1 h v H1 st1 W1 rx => h v H1 st1 W1 rx.unz⟩
def rCntZ : V → List V → Hp → VK → Prop := fun x xs H Q => ∃ (p : Addr) (ob : Obj) (ns : List Int) (k : Int), x = .ref p ∧ xs = [.int k] ∧ H p = some (.frz ob (.tup (List.map V.int ns))) ∧ ob.cls = .type "tuple" ∧ ob.dict = none ∧ Q (.int ((ns.count k : Nat) : Int)) H
theorem mt_tcount : MtR X "tuple.count" rCntZ := by
  (intro pins s σ H x xs v us Q I rx rxs h)
  obtain ⟨p, ob, ns, k, rfl, rfl, hf, hc0, hd0, q⟩ := h
  cases rx
  (obtain ⟨u, rfl, ru⟩ := rxs.one)
  obtain ⟨t, rfl⟩ := ru
  obtain ⟨h0, hz, its, rv, ⟨⟨cls, dd, data, sl⟩, ho, hc, n, hd⟩⟩ := (show ObjOk X.prog X.w H s.heap p (.frz ob (.tup (ns.map V.int))) from I.hok p _ hf)
  simp only at hc hd
  subst hc hd
  have hi := ints_of_vals rv
  refine call_meets PySem.F.slot_tuple_count ⟨_, ho, rfl⟩ PySem.F.entry_tuple_count (PySem.F.args_tuple_count_2 _ _)
    (SeqAt.tuple_countAt p its.toArray n dd sl (.int k t) (eqk k)) ⟨ho, fun y hy => (eqk_gives hi y (by simpa using hy)).at _ _, ?_⟩
  (have ec : its.toArray.toList.countP (eqk k) = ns.count k := eqk_count hi)
  (refine ⟨.int (ns.count k : Nat), H, I.tok _, ⟨s.toks, ?_⟩, q⟩)
  (show Value.int ((its.toArray.toList.countP (eqk k) : Nat) : Int) s.toks = Value.int ((ns.count k : Nat) : Int) s.toks)
  rw [ec]
def tBMz (r : V → List V → Hp → VK → Prop) (to : TE) (t : TA) : TE := fun σ H Q => to σ H fun x H1 => (∃ p ob xs, x = .ref p ∧ H1 p = some (.frz ob (.tup xs)) ∧ ob.cls = .type "tuple" ∧ ob.dict = none) ∧ t σ H1 fun xs H2 => r x xs H2 Q
theorem pe_bmZ {es : List Expr} {to : TE} {t : TA} {name : Str} {id : String} {r : V → List V → Hp → VK → Prop} (slot : Slot "tuple" name id) (hty : typeOf (.builtin id) = pure (.type "method_descriptor")) (hm : MtR X id r) (ho : PE X o to) (ha : PA X (e :: es) t)
    (hbase : attributeBase o name X.env
          (eval o X.env) = eval o X.env := by rfl)
    (hfew :
          ((backTo cpos (starEach (e :: es) X.env)).all (fun x => !x.1) && (backToKw cpos (keywordEach [] X.env)).all (fun x => x.1.isSome)
      && decide ((e :: es).length + ([]
            : List Keyword).length + (if ([] : List Keyword).isEmpty then 0 else 1) < 30)) = true := by rfl)
    (hline : (apos.endLine == cpos.line) = true := by rfl) (hs
          : starEach (e :: es) X.env = (false, eval e X.env) :: starEach es X.env := by rfl) (hplain : (backTo cpos (starEach es X.env)).any (·.1) = false := by rfl) :
    PE X (.Call (.Attribute o name apos) (e :: es) [] cpos) (tBMz r to t) := by
  (refine ⟨fun pins s σ H Q I h => ?_⟩)
  (refine wpAny_Call_method_late hbase hfew hline rfl (thn (ho.run pins s σ H _ I h) fun v s1 ⟨x, H1, I1, r1, ty, q1⟩ => ?_))
  obtain ⟨p, ob, xs, rfl, hf, hc0, hd0⟩ := ty
  obtain rfl : v = .ref p := r1
  obtain ⟨h0, _⟩ := (show ObjOk X.prog X.w H1 s1.heap p (.frz ob (.tup xs)) from I1.hok p _ hf)
  refine ⟨"tuple", id, PySem.F.plainAttrs_tuple, slot, hty, ⟨ob, h0, hc0⟩, fun a e2 => (by cases e2; exact ⟨ob, h0, hd0⟩), ?_⟩
  (have hA := ha.run cpos pins s1 σ H1 _ I1 q1)
  rw [hs] at hA ⊢
  (refine Calls.callWith_builtin (by show (false || (backTo cpos (starEach es X.env)).any (·.1)) = false; rw [hplain] <;> rfl) (Calls.evalArgs_plain ?_))
  exact thn hA fun us s2 ⟨vs, H2, I2, r2, q2⟩ => hm pins s2 σ H2 (.ref p) vs (.ref p) us Q I2 rfl r2 q2
theorem d_cntZ (ho : PE X o (TEof X.K cl wx fa)) (he : PE X e (TEof X.K cl wx fb)) (hbase : attributeBase o "count" X.env (eval o X.env) = eval o X.env := by rfl)
    (hfew : ((backTo cpos (starEach [e] X.env)).all (fun x => !x.1) && (backToKw cpos (keywordEach [] X.env)).all (fun x => x.1.isSome) && decide ([e].length + ([] : List Keyword).length + (if ([] : List Keyword).isEmpty then 0 else 1) < 30)) = true := by rfl)
    (hline : (apos.endLine == cpos.line) = true := by rfl) (hs : starEach [e] X.env = (false, eval e X.env) :: starEach [] X.env := by rfl) (hpl : (backTo cpos (starEach [] X.env)).any (·.1) = false := by rfl) :
    PE X (.Call (.Attribute o "count" apos) [e] [] cpos) (TEof X.K cl wx (dCntZ fa fb)) := by
  refine iE (pe_bmZ PySem.F.slot_tuple_count PySem.F.type_tuple_count mt_tcount ho (pa_cons he pa_nil hs) hbase hfew hline hs hpl) ?_
  rintro σ H Q ⟨w, L, sd, W, h⟩
  unfold dCntZ at h
  refine ⟨w, L, sd, W, PostE.bd botE h fun x s1 h v H1 st1 W1 rx => ?_⟩
  cases rx with
  | @tz ad ob xs ds hf c0 d0 rs =>
    refine ⟨⟨_, _, _, rfl, (hide_some.mp hf).2, c0, d0⟩, w, L, s1, W1, PostE.bd botE h fun y s2 h u H2 st2 W2 ry => ?_⟩
    have h' := h.fin (st1.trans st2) W2
    cases y with
    | int k =>
      have h2 : Fin1 X.K cl (L ++ w.O0) H2 Q (match ints? ds with
        | some ns => ok (.int (ns.count k : Nat))
        | none => none) := h'
      clear h' h
      split at h2
      · next ns en =>
        have rl := (Rp.tz hf c0 d0 rs).mono (st2.sn W2)
        cases ry
        rw [of_ints? en] at rl
        cases rl with
        | tz f3 c3 d3 r3 =>
          rw [r3.ints] at f3
          exact ⟨_, _, ns, k, rfl, rfl, (hide_some.mp f3).2, c3, d3, h2.now (.int _)⟩
      · exact h2.elim
    | _ => exact h'.elim
  | _ => exact h.elim
end
/-! ### own == with an int or a str -/
section
variable {X : Cx} {CX : CXT} {k : Nat} {C f : Addr} {fd : FuncData} {ps names : List Str} {sp : Sp} {E : XK} {cl : Cl} {c : Str} {g : FnD}
def rOwnV (C : Addr) (sp : Sp) (E : XK) : R2 := fun x y H Q => ∃ a dx fs, x = .ref a ∧ ((∃ i, y = .int i) ∨ ∃ t, y = .str t) ∧ H a = some (.ins C dx fs) ∧ sp [.ref a, y] H (fun v H' => ∃ t, v = .bl t ∧ Q (.bl t) H') E
theorem own_runV {pins : List (Addr × Obj)} {σ : L2.St} {H : Hp} {s : Shared} {Q : VK} {a : Addr} {y : V} {u : Value} {A : Around} (F : FnG X.prog X.w X.K X.mg X.base CX k f fd ps sp) (hgd : A.guards = some []) (hr : Room k A) (hb : Binds X.K fd ps []) (hx : Passes CX X.nox E) (I : Inv X pins σ H s) (ry : RelV y u)
    (e0 : Env0 X.prog X.w X.K X.mg X.base A X.stack s H) (q : sp [.ref a, y] H (fun v H' => ∃ t, v = .bl t ∧ Q (.bl t) H') E) :
    wpAny (model X.prog X.w) A (call (.ref f) [.ref a, u]) (fun v s' => ∃ r, v = .bool r ∧ EP X pins σ Q (.bool r) s') X.xe s := by
  have hl : ([Value.ref a, u] ++ []).length = ps.length := F.len _ _ _ _ q
  refine wpAny_call (codeAny_mono (F.go A X.stack s H ⟨[.ref a, u], []⟩ [.ref a, u] [.ref a, y] _ E hgd hr e0 (hb s [.ref a, u] I.kIn hl) (.cons rfl (.cons ry .nil)) q) fun r s' hq => ?_)
  match r, hq with
  | .error er, hq => exact False.elim (hx pins σ H s er s' (I.wish _) hq)
  | .ok (.ret u), hq =>
    obtain ⟨v, H', I3, rv, t, ev, q3⟩ := I.after hq
    subst ev
    cases rv
    exact ⟨t, rfl, .bl t, H', I3, rfl, q3⟩
  | .ok .next, hq => exact hq.elim
theorem op_eqV (F : FnG X.prog X.w X.K X.mg X.base CX k f fd ps sp) (hgd : X.A.guards = some []) (hr : Room k X.A) (hb : Binds X.K fd ps []) (hx : Passes CX X.nox E)
    (hs : PySem.W.findIn X.K (.ref C) "__eq__" = some (some (.ref f))) (hf : PySem.W.isFn X.K (.ref f) = true) : OpR X (compareOp .Eq) (rOwnV C sp E) := by
  (intro pins s σ H x y v u Q I rx ry h)
  obtain ⟨a, dx, fs, rfl, hy, ha, q⟩ := h
  cases rx
  (obtain ⟨mA, J, _⟩ := ins_get I.hok ha)
  obtain ⟨od, J, _⟩ := J.look
  obtain ⟨m, hF⟩ := I.fr
  have run := own_runV F hgd hr hb hx I ry I.env0 q
  show wpAny (model X.prog X.w) X.A (richCompare .Eq (.ref a) u) (EP X pins σ Q) X.xe s
  rcases hy with ⟨i, rfl⟩ | ⟨t, rfl⟩
  · obtain ⟨tk, rfl⟩ := ry
    refine PySem.W.cmp_K (op := .Eq) (tb := .type "int") hr.units0 hF I.ok.mod.kin J (PySem.W.Looks.of_pure rfl) ?_ hs hf ?_
    · show (Value.type "int" == .ref C || (PySem.W.subIn X.K (.type "int") (.ref C) == some false)) = true
      rw [Bool.or_eq_true]
      exact .inr (by unfold PySem.W.subIn; kernel_rfl)
    refine wpAny_mono run (fun r s' z => ?_) fun _ _ e => e
    obtain ⟨t, rfl, z⟩ := z
    exact z
  · obtain ⟨tk, rfl⟩ := ry
    refine PySem.W.cmp_K (op := .Eq) (tb := .type "str") hr.units0 hF I.ok.mod.kin J (PySem.W.Looks.of_pure rfl) ?_ hs hf ?_
    · show (Value.type "str" == .ref C || (PySem.W.subIn X.K (.type "str") (.ref C) == some false)) = true
      rw [Bool.or_eq_true]
      exact .inr (by unfold PySem.W.subIn; kernel_rfl)
    refine wpAny_mono run (fun r s' z => ?_) fun _ _ e => e
    obtain ⟨t, rfl, z⟩ := z
    exact z
def ownVQ (c : Str) (g : FnD) : Op2 := fun a b => match a, b with
  | .obj c1 fs, .int i => if c1 = c then blM (g [.obj c1 fs, .int i]) else none
  | .obj c1 fs, .str t => if c1 = c then blM (g [.obj c1 fs, .str t]) else none
  | _, _ => none
theorem ownV_read (kc : ClsD X.K cl c C names) : OpD X.K cl (rOwnV C (spP X.K cl 2 g) E) (ownVQ c g) := by
  intro O H x y d e Q al rx ry h
  unfold ownVQ at h
  cases d with
  | obj c1 fs =>
    cases e with
    | int i =>
      dsimp only at h
      split at h
      · next ec =>
        subst ec
        have rx0 := rx
        have ry0 := ry
        cases rx with
        | obj k0 e0 n0 r0 =>
          cases ry
          rw [kc.at_] at k0
          cases k0
          exact ⟨_, _, _, rfl, .inl ⟨i, rfl⟩, (hide_some.mp e0).2, rfl, O, _, al, .cons rx0 (.cons ry0 .nil), blM_read h⟩
      · exact h.elim
    | str i =>
      dsimp only at h
      split at h
      · next ec =>
        subst ec
        have rx0 := rx
        have ry0 := ry
        cases rx with
        | obj k0 e0 n0 r0 =>
          cases ry
          rw [kc.at_] at k0
          cases k0
          exact ⟨_, _, _, rfl, .inr ⟨i, rfl⟩, (hide_some.mp e0).2, rfl, O, _, al, .cons rx0 (.cons ry0 .nil), blM_read h⟩
      · exact h.elim
    | _ => exact h.elim
  | _ => exact h.elim
theorem k_eqOV (kc : ClsD X.K cl c C names) (hm : Meth X.K C "__eq__" f) (F : FnG X.prog X.w X.K X.mg X.base (L2.CX X.prog X.w) k f fd ps (spP X.K cl 2 g)) (hgd : X.A.guards = some []) (hr : Room k X.A) (hb : Binds X.K fd ps []) : OpK X X.K cl (compareOp .Eq) (ownVQ c g) :=
  ⟨_, op_eqV F hgd hr hb passN hm.at_ hm.fn, ownV_read kc⟩
end
end Dt
noncomputable section
namespace Tf
open PySem PySem.Spec PyProof.Rows L2 Dt
def top (i : Nat) : Stmt := PySem.Challenge.pw_triplefree_k07_ternary_objects.main.body.getD i (.Pass ⟨0, 0, 0, 0⟩)
def mth (i j : Nat) : Stmt := match top i with
  | .ClassDef _ _ _ b .. => b.getD j (.Pass ⟨0, 0, 0, 0⟩)
  | s => s
def dd (a : At) (x q : Str) (s : Stmt) (dfl : List He.Dv) (kwd : List (Str × He.Dv)) : DefC := ⟨a, x, q, defArgs s, defBody s, defScope s, dfl, kwd⟩
def fn : List DefC := [dd (.fn "is_integer") "is_integer" "is_integer" (top 4) [] [("low", .non), ("high", .non)],
  dd (.fn "check_number") "check_number" "check_number" (top 5) [.int 0, .non] [],
  dd (.fn "digits_in") "digits_in" "digits_in" (top 6) [] [],
  dd (.fn "number_of") "number_of" "number_of" (top 7) [] [],
  dd (.fn "are_plain") "are_plain" "are_plain" (top 8) [] [],
  dd (.fn "_law_mixed") "_law_mixed" "_law_mixed" (top 11) [] [],
  dd (.fn "_law_stream") "_law_stream" "_law_stream" (top 12) [] [],
  dd (.fn "_law_draw") "_law_draw" "_law_draw" (top 13) [] [],
  dd (.fn "_law_number") "_law_number" "_law_number" (top 14) [] [],
  dd (.fn "_law_digits") "_law_digits" "_law_digits" (top 15) [] [],
  dd (.fn "_law_object_right") "_law_object_right" "_law_object_right" (top 16) [] [],
  dd (.fn "_law_last_right") "_law_last_right" "_law_last_right" (top 17) [] [],
  dd (.fn "_law_told") "_law_told" "_law_told" (top 18) [] [],
  dd (.fn "_law_errors_right") "_law_errors_right" "_law_errors_right" (top 19) [] [],
  dd (.fn "law") "law" "law" (top 20) [] [],
  dd (.meth "InvalidNumber" "__init__") "__init__" "InvalidNumber.__init__" (mth 2 0) [] [],
  dd (.prop "Ternary" "number") "number" "Ternary.number" (mth 9 4) [] [],
  dd (.prop "Ternary" "digits") "digits" "Ternary.digits" (mth 9 5) [] [],
  dd (.prop "Ternary" "ones") "ones" "Ternary.ones" (mth 9 6) [] [],
  dd (.prop "Ternary" "is_plain") "is_plain" "Ternary.is_plain" (mth 9 7) [] [],
  dd (.meth "Ternary" "__init__") "__init__" "Ternary.__init__" (mth 9 1) [] [],
  dd (.meth "Ternary" "__eq__") "__eq__" "Ternary.__eq__" (mth 9 8) [] [],
  dd (.meth "Ternary" "__eq__") "__eq__" "Ternary.__eq__" (mth 9 8) [] [],
  dd (.meth "Ternary" "__str__") "__str__" "Ternary.__str__" (mth 9 9) [] [],
  dd (.clsm "Ternary" "from_digits") "from_digits" "Ternary.from_digits" (mth 9 3) [] [],
  dd (.stat "Ternary" "is_digit") "is_digit" "Ternary.is_digit" (mth 9 2) [] []]
def frees : List Str := ["isinstance", "bool", "int", "divmod", "str", "range", "max", "tuple", "repr", "enumerate"]
def csts : List (Str × Int) := []
def globs : List Str := ["is_integer", "check_number", "digits_in", "number_of", "are_plain", "_law_mixed", "_law_stream", "_law_draw", "_law_number", "_law_digits", "_law_object_right", "_law_last_right", "_law_told", "_law_errors_right", "law", "Ternary", "InvalidNumber", "SetError"]
def clsfacts : List He.Fa := [.cls "Ternary", .mkr "Ternary", .noat "Ternary" "own_number", .noat "Ternary" "own_digits"]
def cstSs : List (Str × Str) := []
def fa : List He.Fa := globs.map .glo ++ (frees.map .free ++ ((csts.map fun c => .int c.1 c.2) ++ ((cstSs.map fun c => .str c.1 c.2) ++ clsfacts)))
def ex (K : PySem.W.Frag) : Bool := errB K (He.ga K "InvalidNumber") ["given"] && (excgB K (He.ga K "InvalidNumber") [.type "ValueError", .type "Exception", .type "BaseException", .type "object"] "ValueError.__new__" && (sinitB K (He.ga K "SetError") "ValueError.__init__" && (kitX K (.type "dict") (.type "bool") false && (kitX K (.type "tuple") (.type "bool") false && (kitX K (.type "list") (.type "bool") false && (kitX K (.type "str") (.type "bool") false && (kitX K (.type "int") (.type "bool") false && (kitX K (.type "bool") (.type "bool") true && (kitX K (.type "NoneType") (.type "bool") false && (kitX K (.type "dict") (.type "int") false && (kitX K (.type "tuple") (.type "int") false && (kitX K (.type "list") (.type "int") false && (kitX K (.type "str") (.type "int") false && (kitX K (.type "int") (.type "int") true && (kitX K (.type "bool") (.type "int") true && (kitX K (.type "NoneType") (.type "int") false && (insB K "Ternary" && (kitX K (.ref (He.ga K "Ternary")) (.ref (He.ga K "Ternary")) true && (kitX K (.type "dict") (.ref (He.ga K "Ternary")) false && (kitX K (.type "tuple") (.ref (He.ga K "Ternary")) false && (kitX K (.type "list") (.ref (He.ga K "Ternary")) false && (kitX K (.type "str") (.ref (He.ga K "Ternary")) false && (kitX K (.type "int") (.ref (He.ga K "Ternary")) false && (kitX K (.type "bool") (.ref (He.ga K "Ternary")) false && (kitX K (.type "NoneType") (.ref (He.ga K "Ternary")) false && (exmX K (.ref (He.ga K "InvalidNumber")) (.ref (He.ga K "SetError")) true && (kitX K (.ref (He.ga K "InvalidNumber")) (.ref (He.ga K "InvalidNumber")) true && (kitX K (.type "NoneType") (.ref (He.ga K "InvalidNumber")) false && (neB K (He.ga K "Ternary") && (cmB K "Ternary" "from_digits" && (smB K "Ternary" "is_digit" && (nodA [tA K "_law_errors_right"] && ((tabB K "_law_errors_right") && (cvalB K "Ternary" "RADIX" 3 && (true)))))))))))))))))))))))))))))))))))
abbrev R : PySem.W.OpenRow := PySem.W.OpenLaw.row PySem.Challenge.rw_triplefree_k07_ternary_objects
def adrs : List Addr := decF 100000 147000146000145000143000139000138000137000135000131000130000129000127000123000122000121000119000113000112000111000109000103000102000101000099000160000158000155000154000153000151000148000140000132000124000118000114000108000104000096000095000094000092000040000039000038000036000161000156000149000141000133000125000116000115000106000105000097000041000235000234000233000231000228000227000226000224000221000220000219000217000214000213000212000210000207000205000202000201000200000198000195000194000193000191000188000187000186000184000181000180000179000177000174000173000172000170000167000166000163000162000157000150000142000134000126000117000107000098000082000081000080000078000075000074000073000071000068000067000066000064000061000060000059000057000053000052000051000049000043000042000026000023000236000229000222000215000208000203000196000189000182000175000164000083000076000069000056000062000048000054000044000024000001000237000230000223000216000209000204000197000190000183000176000165000084000077000070000063000055000045000025000005000007000004000003000002
abbrev hk : PySem.W.Hook := hookL adrs fa fn ex
def ob (s : PySem.W.SharedT) : AlC := obsL adrs fa fn ex (HandSHeadRun.getT s)
theorem ob_eq (s : PySem.W.SharedT) : ob s = hk.obs s.abs := obsL_eq (HandSHeadRun.getT_eq s)
def loose : List PySem.Str := ["SetError", "InvalidNumber", "is_integer", "check_number", "digits_in", "number_of", "are_plain", "Ternary", "_law_mixed", "_law_stream", "_law_draw", "_law_number", "_law_digits", "_law_object_right", "_law_last_right", "_law_told"]
theorem run (w : World) : HandSHeadRun.RunEq R (PySem.W.view R.prog [19, 20]) hk ob 40000 loose w := by
  intro os
  kernel_rfl
structure Ctx (K : PySem.W.Frag) (mg : Str → Option Value) : Prop where
  says : SaysC fa fn ex K
  glo : ∀ x : Str, x ∈ globs → mg x = some (.ref (He.ga K x))
  fre : ∀ x : Str, x ∈ frees → mg x = none
  cst : ∀ c : Str × Int, c ∈ csts → ∃ t, mg c.1 = some (.int c.2 t)
  cstS : ∀ c : Str × Str, c ∈ cstSs → ∃ t, mg c.1 = some (.str c.2 t)
theorem ctx_of {K : PySem.W.Frag} {h : Heap} {mg : Str → Option Value} (X : K.In h) (G : h.Ns mainGlobals mg) (c : SaysC fa fn ex K) : Ctx K mg :=
  ⟨c, fun x hx => He.glo_ok X G (c.facts (List.mem_append_left _ (List.mem_map.mpr ⟨x, hx, rfl⟩))),
    fun x hx => He.free_ok X G (c.facts (List.mem_append_right _ (List.mem_append_left _ (List.mem_map.mpr ⟨x, hx, rfl⟩)))),
    fun q hq => He.int_ok X G (c.facts (List.mem_append_right _ (List.mem_append_right _ (List.mem_append_left _ (List.mem_map.mpr ⟨q, hq, rfl⟩))))),
    fun q hq => He.str_ok X G (c.facts (List.mem_append_right _ (List.mem_append_right _ (List.mem_append_right _ (List.mem_append_left _ (List.mem_map.mpr ⟨q, hq, rfl⟩))))))⟩
theorem ex_0 {K : PySem.W.Frag} (c : SaysC fa fn ex K) : errB K (He.ga K "InvalidNumber") ["given"] = true := (He.ba c.more).1
theorem ex_1 {K : PySem.W.Frag} (c : SaysC fa fn ex K) : excgB K (He.ga K "InvalidNumber") [.type "ValueError", .type "Exception", .type "BaseException", .type "object"] "ValueError.__new__" = true := (He.ba (He.ba c.more).2).1
theorem ex_2 {K : PySem.W.Frag} (c : SaysC fa fn ex K) : sinitB K (He.ga K "SetError") "ValueError.__init__" = true := (He.ba (He.ba (He.ba c.more).2).2).1
theorem ex_3 {K : PySem.W.Frag} (c : SaysC fa fn ex K) : kitX K (.type "dict") (.type "bool") false = true := (He.ba (He.ba (He.ba (He.ba c.more).2).2).2).1
theorem ex_4 {K : PySem.W.Frag} (c : SaysC fa fn ex K) : kitX K (.type "tuple") (.type "bool") false = true := (He.ba (He.ba (He.ba (He.ba (He.ba c.more).2).2).2).2).1
theorem ex_5 {K : PySem.W.Frag} (c : SaysC fa fn ex K) : kitX K (.type "list") (.type "bool") false = true := (He.ba (He.ba (He.ba (He.ba (He.ba (He.ba c.more).2).2).2).2).2).1
theorem ex_6 {K : PySem.W.Frag} (c : SaysC fa fn ex K) : kitX K (.type "str") (.type "bool") false = true := (He.ba (He.ba (He.ba (He.ba (He.ba (He.ba (He.ba c.more).2).2).2).2).2).2).1
theorem ex_7 {K : PySem.W.Frag} (c : SaysC fa fn ex K) : kitX K (.type "int") (.type "bool") false = true := (He.ba (He.ba (He.ba (He.ba (He.ba (He.ba (He.ba (He.ba c.more).2).2).2).2).2).2).2).1
theorem ex_8 {K : PySem.W.Frag} (c : SaysC fa fn ex K) : kitX K (.type "bool") (.type "bool") true = true := (He.ba (He.ba (He.ba (He.ba (He.ba (He.ba (He.ba (He.ba (He.ba c.more).2).2).2).2).2).2).2).2).1
theorem ex_9 {K : PySem.W.Frag} (c : SaysC fa fn ex K) : kitX K (.type "NoneType") (.type "bool") false = true := (He.ba (He.ba (He.ba (He.ba (He.ba (He.ba (He.ba (He.ba (He.ba (He.ba c.more).2).2).2).2).2).2).2).2).2).1
theorem ex_10 {K : PySem.W.Frag} (c : SaysC fa fn ex K) : kitX K (.type "dict") (.type "int") false = true := (He.ba (He.ba (He.ba (He.ba (He.ba (He.ba (He.ba (He.ba (He.ba (He.ba (He.ba c.more).2).2).2).2).2).2).2).2).2).2).1
theorem ex_11 {K : PySem.W.Frag} (c : SaysC fa fn ex K) : kitX K (.type "tuple") (.type "int") false = true := (He.ba (He.ba (He.ba (He.ba (He.ba (He.ba (He.ba (He.ba (He.ba (He.ba (He.ba (He.ba c.more).2).2).2).2).2).2).2).2).2).2).2).1
theorem ex_12 {K : PySem.W.Frag} (c : SaysC fa fn ex K) : kitX K (.type "list") (.type "int") false = true := (He.ba (He.ba (He.ba (He.ba (He.ba (He.ba (He.ba (He.ba (He.ba (He.ba (He.ba (He.ba (He.ba c.more).2).2).2).2).2).2).2).2).2).2).2).2).1
theorem ex_13 {K : PySem.W.Frag} (c : SaysC fa fn ex K) : kitX K (.type "str") (.type "int") false = true := (He.ba (He.ba (He.ba (He.ba (He.ba (He.ba (He.ba (He.ba (He.ba (He.ba (He.ba (He.ba (He.ba (He.ba c.more).2).2).2).2).2).2).2).2).2).2).2).2).2).1
theorem ex_14 {K : PySem.W.Frag} (c : SaysC fa fn ex K) : kitX K (.type "int") (.type "int") true = true := (He.ba (He.ba (He.ba (He.ba (He.ba (He.ba (He.ba (He.ba (He.ba (He.ba (He.ba (He.ba (He.ba (He.ba (He.ba c.more).2).2).2).2).2).2).2).2).2).2).2).2).2).2).1
theorem ex_15 {K : PySem.W.Frag} (c : SaysC fa fn ex K) : kitX K (.type "bool") (.type "int") true = true := (He.ba (He.ba (He.ba (He.ba (He.ba (He.ba (He.ba (He.ba (He.ba (He.ba (He.ba (He.ba (He.ba (He.ba (He.ba (He.ba c.more).2).2).2).2).2).2).2).2).2).2).2).2).2).2).2).1
theorem ex_16 {K : PySem.W.Frag} (c : SaysC fa fn ex K) : kitX K (.type "NoneType") (.type "int") false = true := (He.ba (He.ba (He.ba (He.ba (He.ba (He.ba (He.ba (He.ba (He.ba (He.ba (He.ba (He.ba (He.ba (He.ba (He.ba (He.ba (He.ba c.more).2).2).2).2).2).2).2).2).2).2).2).2).2).2).2).2).1
theorem ex_17 {K : PySem.W.Frag} (c : SaysC fa fn ex K) : insB K "Ternary" = true := (He.ba (He.ba (He.ba (He.ba (He.ba (He.ba (He.ba (He.ba (He.ba (He.ba (He.ba (He.ba (He.ba (He.ba (He.ba (He.ba (He.ba (He.ba c.more).2).2).2).2).2).2).2).2).2).2).2).2).2).2).2).2).2).1
theorem ex_18 {K : PySem.W.Frag} (c : SaysC fa fn ex K) : kitX K (.ref (He.ga K "Ternary")) (.ref (He.ga K "Ternary")) true = true := (He.ba (He.ba (He.ba (He.ba (He.ba (He.ba (He.ba (He.ba (He.ba (He.ba (He.ba (He.ba (He.ba (He.ba (He.ba (He.ba (He.ba (He.ba (He.ba c.more).2).2).2).2).2).2).2).2).2).2).2).2).2).2).2).2).2).2).1
theorem ex_19 {K : PySem.W.Frag} (c : SaysC fa fn ex K) : kitX K (.type "dict") (.ref (He.ga K "Ternary")) false = true := (He.ba (He.ba (He.ba (He.ba (He.ba (He.ba (He.ba (He.ba (He.ba (He.ba (He.ba (He.ba (He.ba (He.ba (He.ba (He.ba (He.ba (He.ba (He.ba (He.ba c.more).2).2).2).2).2).2).2).2).2).2).2).2).2).2).2).2).2).2).2).1
theorem ex_20 {K : PySem.W.Frag} (c : SaysC fa fn ex K) : kitX K (.type "tuple") (.ref (He.ga K "Ternary")) false = true := (He.ba (He.ba (He.ba (He.ba (He.ba (He.ba (He.ba (He.ba (He.ba (He.ba (He.ba (He.ba (He.ba (He.ba (He.ba (He.ba (He.ba (He.ba (He.ba (He.ba (He.ba c.more).2).2).2).2).2).2).2).2).2).2).2).2).2).2).2).2).2).2).2).2).1
theorem ex_21 {K : PySem.W.Frag} (c : SaysC fa fn ex K) : kitX K (.type "list") (.ref (He.ga K "Ternary")) false = true := (He.ba (He.ba (He.ba (He.ba (He.ba (He.ba (He.ba (He.ba (He.ba (He.ba (He.ba (He.ba (He.ba (He.ba (He.ba (He.ba (He.ba (He.ba (He.ba (He.ba (He.ba (He.ba c.more).2).2).2).2).2).2).2).2).2).2).2).2).2).2).2).2).2).2).2).2).2).1
theorem ex_22 {K : PySem.W.Frag} (c : SaysC fa fn ex K) : kitX K (.type "str") (.ref (He.ga K "Ternary")) false = true := (He.ba (He.ba (He.ba (He.ba (He.ba (He.ba (He.ba (He.ba (He.ba (He.ba (He.ba (He.ba (He.ba (He.ba (He.ba (He.ba (He.ba (He.ba (He.ba (He.ba (He.ba (He.ba (He.ba c.more).2).2).2).2).2).2).2).2).2).2).2).2).2).2).2).2).2).2).2).2).2).2).1
theorem ex_23 {K : PySem.W.Frag} (c : SaysC fa fn ex K) : kitX K (.type "int") (.ref (He.ga K "Ternary")) false = true := (He.ba (He.ba (He.ba (He.ba (He.ba (He.ba (He.ba (He.ba (He.ba (He.ba (He.ba (He.ba (He.ba (He.ba (He.ba (He.ba (He.ba (He.ba (He.ba (He.ba (He.ba (He.ba (He.ba (He.ba c.more).2).2).2).2).2).2).2).2).2).2).2).2).2).2).2).2).2).2).2).2).2).2).2).1
theorem ex_24 {K : PySem.W.Frag} (c : SaysC fa fn ex K) : kitX K (.type "bool") (.ref (He.ga K "Ternary")) false = true := (He.ba (He.ba (He.ba (He.ba (He.ba (He.ba (He.ba (He.ba (He.ba (He.ba (He.ba (He.ba (He.ba (He.ba (He.ba (He.ba (He.ba (He.ba (He.ba (He.ba (He.ba (He.ba (He.ba (He.ba (He.ba c.more).2).2).2).2).2).2).2).2).2).2).2).2).2).2).2).2).2).2).2).2).2).2).2).2).1
theorem ex_25 {K : PySem.W.Frag} (c : SaysC fa fn ex K) : kitX K (.type "NoneType") (.ref (He.ga K "Ternary")) false = true := (He.ba (He.ba (He.ba (He.ba (He.ba (He.ba (He.ba (He.ba (He.ba (He.ba (He.ba (He.ba (He.ba (He.ba (He.ba (He.ba (He.ba (He.ba (He.ba (He.ba (He.ba (He.ba (He.ba (He.ba (He.ba (He.ba c.more).2).2).2).2).2).2).2).2).2).2).2).2).2).2).2).2).2).2).2).2).2).2).2).2).2).1
theorem ex_26 {K : PySem.W.Frag} (c : SaysC fa fn ex K) : exmX K (.ref (He.ga K "InvalidNumber")) (.ref (He.ga K "SetError")) true = true := (He.ba (He.ba (He.ba (He.ba (He.ba (He.ba (He.ba (He.ba (He.ba (He.ba (He.ba (He.ba (He.ba (He.ba (He.ba (He.ba (He.ba (He.ba (He.ba (He.ba (He.ba (He.ba (He.ba (He.ba (He.ba (He.ba (He.ba c.more).2).2).2).2).2).2).2).2).2).2).2).2).2).2).2).2).2).2).2).2).2).2).2).2).2).2).1
theorem ex_27 {K : PySem.W.Frag} (c : SaysC fa fn ex K) : kitX K (.ref (He.ga K "InvalidNumber")) (.ref (He.ga K "InvalidNumber")) true = true := (He.ba (He.ba (He.ba (He.ba (He.ba (He.ba (He.ba (He.ba (He.ba (He.ba (He.ba (He.ba (He.ba (He.ba (He.ba (He.ba (He.ba (He.ba (He.ba (He.ba (He.ba (He.ba (He.ba (He.ba (He.ba (He.ba (He.ba (He.ba c.more).2).2).2).2).2).2).2).2).2).2).2).2).2).2).2).2).2).2).2).2).2).2).2).2).2).2).2).1
theorem ex_28 {K : PySem.W.Frag} (c : SaysC fa fn ex K) : kitX K (.type "NoneType") (.ref (He.ga K "InvalidNumber")) false = true := (He.ba (He.ba (He.ba (He.ba (He.ba (He.ba (He.ba (He.ba (He.ba (He.ba (He.ba (He.ba (He.ba (He.ba (He.ba (He.ba (He.ba (He.ba (He.ba (He.ba (He.ba (He.ba (He.ba (He.ba (He.ba (He.ba (He.ba (He.ba (He.ba c.more).2).2).2).2).2).2).2).2).2).2).2).2).2).2).2).2).2).2).2).2).2).2).2).2).2).2).2).2).1
theorem ex_29 {K : PySem.W.Frag} (c : SaysC fa fn ex K) : neB K (He.ga K "Ternary") = true := (He.ba (He.ba (He.ba (He.ba (He.ba (He.ba (He.ba (He.ba (He.ba (He.ba (He.ba (He.ba (He.ba (He.ba (He.ba (He.ba (He.ba (He.ba (He.ba (He.ba (He.ba (He.ba (He.ba (He.ba (He.ba (He.ba (He.ba (He.ba (He.ba (He.ba c.more).2).2).2).2).2).2).2).2).2).2).2).2).2).2).2).2).2).2).2).2).2).2).2).2).2).2).2).2).2).1
theorem ex_30 {K : PySem.W.Frag} (c : SaysC fa fn ex K) : cmB K "Ternary" "from_digits" = true := (He.ba (He.ba (He.ba (He.ba (He.ba (He.ba (He.ba (He.ba (He.ba (He.ba (He.ba (He.ba (He.ba (He.ba (He.ba (He.ba (He.ba (He.ba (He.ba (He.ba (He.ba (He.ba (He.ba (He.ba (He.ba (He.ba (He.ba (He.ba (He.ba (He.ba (He.ba c.more).2).2).2).2).2).2).2).2).2).2).2).2).2).2).2).2).2).2).2).2).2).2).2).2).2).2).2).2).2).2).1
theorem ex_31 {K : PySem.W.Frag} (c : SaysC fa fn ex K) : smB K "Ternary" "is_digit" = true := (He.ba (He.ba (He.ba (He.ba (He.ba (He.ba (He.ba (He.ba (He.ba (He.ba (He.ba (He.ba (He.ba (He.ba (He.ba (He.ba (He.ba (He.ba (He.ba (He.ba (He.ba (He.ba (He.ba (He.ba (He.ba (He.ba (He.ba (He.ba (He.ba (He.ba (He.ba (He.ba c.more).2).2).2).2).2).2).2).2).2).2).2).2).2).2).2).2).2).2).2).2).2).2).2).2).2).2).2).2).2).2).2).1
theorem ex_32 {K : PySem.W.Frag} (c : SaysC fa fn ex K) : nodA [tA K "_law_errors_right"] = true := (He.ba (He.ba (He.ba (He.ba (He.ba (He.ba (He.ba (He.ba (He.ba (He.ba (He.ba (He.ba (He.ba (He.ba (He.ba (He.ba (He.ba (He.ba (He.ba (He.ba (He.ba (He.ba (He.ba (He.ba (He.ba (He.ba (He.ba (He.ba (He.ba (He.ba (He.ba (He.ba (He.ba c.more).2).2).2).2).2).2).2).2).2).2).2).2).2).2).2).2).2).2).2).2).2).2).2).2).2).2).2).2).2).2).2).2).1
theorem ex_33 {K : PySem.W.Frag} (c : SaysC fa fn ex K) : (tabB K "_law_errors_right") = true := (He.ba (He.ba (He.ba (He.ba (He.ba (He.ba (He.ba (He.ba (He.ba (He.ba (He.ba (He.ba (He.ba (He.ba (He.ba (He.ba (He.ba (He.ba (He.ba (He.ba (He.ba (He.ba (He.ba (He.ba (He.ba (He.ba (He.ba (He.ba (He.ba (He.ba (He.ba (He.ba (He.ba (He.ba c.more).2).2).2).2).2).2).2).2).2).2).2).2).2).2).2).2).2).2).2).2).2).2).2).2).2).2).2).2).2).2).2).2).2).1
theorem ex_34 {K : PySem.W.Frag} (c : SaysC fa fn ex K) : cvalB K "Ternary" "RADIX" 3 = true := (He.ba (He.ba (He.ba (He.ba (He.ba (He.ba (He.ba (He.ba (He.ba (He.ba (He.ba (He.ba (He.ba (He.ba (He.ba (He.ba (He.ba (He.ba (He.ba (He.ba (He.ba (He.ba (He.ba (He.ba (He.ba (He.ba (He.ba (He.ba (He.ba (He.ba (He.ba (He.ba (He.ba (He.ba (He.ba c.more).2).2).2).2).2).2).2).2).2).2).2).2).2).2).2).2).2).2).2).2).2).2).2).2).2).2).2).2).2).2).2).2).2).2).1
def cl0 (K : PySem.W.Frag) : Cl := fun c => if c = "Ternary" then some (He.ga K "Ternary", ["own_number", "own_digits"]) else (if c = "InvalidNumber" then some (He.ga K "InvalidNumber", ["given"]) else (if c = "_law_errors_right.<locals>.<lambda>" then some (tA K "_law_errors_right", []) else (none)))
theorem tcl__law_errors_right {K : PySem.W.Frag} : ∃ ns, cl0 K "_law_errors_right.<locals>.<lambda>" = some (tA K "_law_errors_right", ns) := ⟨[], by unfold cl0; rw [if_neg (by decide), if_neg (by decide), if_pos rfl]⟩
theorem clE_InvalidNumber {K : PySem.W.Frag} : cl0 K "InvalidNumber" = some (He.ga K "InvalidNumber", (["given"] : List Str)) := by unfold cl0; rw [if_neg (by decide), if_pos rfl]
theorem cls_Ternary {K : PySem.W.Frag} (c : SaysC fa fn ex K) : ClsD K (cl0 K) "Ternary" (He.ga K "Ternary") ["own_number", "own_digits"] := clsD_of (by unfold cl0; rw [if_pos rfl]) (c.facts (by simp [fa, clsfacts])) (fun f hf => c.facts (by
  simp only [List.mem_cons, List.not_mem_nil, or_false] at hf
  rcases hf with rfl | rfl <;> simp [fa, clsfacts])) (by decide)
def tnames : List Str := ["_law_errors_right"]
structure TabsC (K : PySem.W.Frag) (mg : Str → Option Value) (base : Heap) : Prop where
  kin : K.In base
  ns : base.Ns mainGlobals mg
  tb : ∀ (x : Str) (c P : Addr), x ∈ tnames → PySem.W.tabIn K x = some (c, P) → LamX.TabB base mg c P
theorem code_of {K : PySem.W.Frag} {mg : Str → Option Value} {base : Heap} {x y qual : Str} {c P : Addr} {params : Arguments} {body : List Stmt} {scope : Scope} {dvs : List V} {kws : List (Str × V)} {f : Addr} {fd : FuncData} (Z : TabsC K mg base) (ht : PySem.W.tabIn K x = some (c, P)) (hm : mg x = some (.ref f)) (F : FunD K y qual params body scope dvs kws f fd) : fd.code = .ref c := by
  obtain ⟨oc, od, dV, kV, doc, pm, an, cdv, ct, osl, rfl, lk, _⟩ := F.ex
  exact PySem.W.law_code Z.kin Z.ns ht hm (Z.kin _ _ lk) rfl
/-! InvalidNumber_init -/
theorem sc_InvalidNumber_init : FnScope ["self", "given"] ["self", "given"] (defScope (mth 2 0)) := ⟨rfl, rfl, rfl, by decide +kernel, rfl, by decide +kernel, by decide +kernel⟩
abbrev D_InvalidNumber_init (K : PySem.W.Frag) (fd : FuncData) : Prop := FunD K "__init__" "InvalidNumber.__init__" (defArgs (mth 2 0)) (defBody (mth 2 0)) (defScope (mth 2 0)) [] [] (He.ma K (He.ga K "InvalidNumber") "__init__") fd
theorem ok_InvalidNumber_init {P : Program} {w : World} {K : PySem.W.Frag} {mg : Str → Option Value} {base : Heap} (Z : Ctx K mg) {fd : FuncData} (F : D_InvalidNumber_init K fd) : FnG P w K mg base (L2.CX P w) 1 (He.ma K (He.ga K "InvalidNumber") "__init__") fd ["self", "given"] (spEx (He.ga K "InvalidNumber") ["given"]) := by
  have er := err_of (ex_0 Z.says)
  have xg := excg_of PySem.F.excBase_ValueError PySem.F.store_ValueError (ex_1 Z.says)
  have si := sinit_of (ex_2 Z.says)
  have ms : mg "SetError" = some (.ref (He.ga K "SetError")) := Z.glo "SetError" (by decide)
  have sc := sc_InvalidNumber_init
  refine okGD F sc (fun vs H Q E z => by obtain ⟨a, ws, rfl, hl, _⟩ := z; rw [List.length_cons, hl]; rfl) fun cdv A outer s H vs Q E hg hr z => ?_
  exact init1 (N := ["self", "given"]) xg si ms (er.no "given" (by simp)) (fun _ => pe_var (i := 0) rfl (Or.inl rfl)) (fun _ => pe_var (i := 1) rfl (Or.inl rfl)) (pe_sinit xg si ms (pa_cons (pe_var (i := 0) rfl (Or.inl rfl)) (pa_cons pe_str pa_nil))) rfl rfl (by decide) z
/-! is_integer -/
def b_is_integer : S → M Out := (sSeq (sIf (dOr (dNot (dTst (dIsA [] [("NoneType", false), ("bool", true), ("int", true), ("str", false), ("list", false), ("tuple", false), ("dict", false)] (dVar 0)))) (dTst (dIsA [] [("NoneType", false), ("bool", true), ("int", false), ("str", false), ("list", false), ("tuple", false), ("dict", false)] (dVar 0))))
    (sRet (dC (.bl false)))
    sNil)
    (sRet (vAnd (vOr (dBin isNon (dVar 1) (dC .non)) (dBin leI (dVar 1) (dVar 0))) (vOr (dBin isNon (dVar 2) (dC .non)) (dBin leI (dVar 0) (dVar 2))))))
def f_is_integer : FnD := runP 3 b_is_integer
theorem sc_is_integer : FnScope ["value", "low", "high"] ["value", "low", "high"] (defScope (top 4)) := ⟨rfl, rfl, rfl, by decide +kernel, rfl, by decide +kernel, by decide +kernel⟩
abbrev D_is_integer (K : PySem.W.Frag) (fd : FuncData) : Prop := FunD K "is_integer" "is_integer" (defArgs (top 4)) (defBody (top 4)) (defScope (top 4)) [] [("low", V.non), ("high", V.non)] (He.ga K "is_integer") fd
theorem ok_is_integer {P : Program} {w : World} {K : PySem.W.Frag} {mg : Str → Option Value} {base : Heap} (Z : Ctx K mg) {fd : FuncData} (F : D_is_integer K fd) : FnG P w K mg base (L2.CX P w) 1 (He.ga K "is_integer") fd ["value", "low", "high"] (spP K (cl0 K) 3 f_is_integer) := by
  have fr_isinstance : mg "isinstance" = none := Z.fre "isinstance" (by decide)
  have fr_bool : mg "bool" = none := Z.fre "bool" (by decide)
  have fr_int : mg "int" = none := Z.fre "int" (by decide)
  have sc := sc_is_integer
  refine okP F sc rfl rfl (F := b_is_integer) fun cdv A outer s H E hg hr tk hp => ?_
  exact ⟨_, (s_cons (s_if (d_or (d_not (d_tst (d_isAT [] [("NoneType", false), ("bool", true), ("int", true), ("str", false), ("list", false), ("tuple", false), ("dict", false)] tb_nil (tt_cons (kitX_ok (ex_16 Z.says)) (tt_cons (kitX_ok (ex_15 Z.says)) (tt_cons (kitX_ok (ex_14 Z.says)) (tt_cons (kitX_ok (ex_13 Z.says)) (tt_cons (kitX_ok (ex_12 Z.says)) (tt_cons (kitX_ok (ex_11 Z.says)) (tt_cons (kitX_ok (ex_10 Z.says)) tt_nil))))))) (d_var 0) fr_isinstance fr_int rfl rfl))) (d_or1 (d_tst (d_isAT [] [("NoneType", false), ("bool", true), ("int", false), ("str", false), ("list", false), ("tuple", false), ("dict", false)] tb_nil (tt_cons (kitX_ok (ex_9 Z.says)) (tt_cons (kitX_ok (ex_8 Z.says)) (tt_cons (kitX_ok (ex_7 Z.says)) (tt_cons (kitX_ok (ex_6 Z.says)) (tt_cons (kitX_ok (ex_5 Z.says)) (tt_cons (kitX_ok (ex_4 Z.says)) (tt_cons (kitX_ok (ex_3 Z.says)) tt_nil))))))) (d_var 0) fr_isinstance fr_bool rfl rfl)))).pt
    (s_one (s_ret d_bl))
    s_nil)
    (s_one (s_ret (d_vand (d_vor (d_cmp k_is (d_var 1) d_non) (d_vone (d_cmp k_le (d_var 1) (d_var 0)))) (d_vone (d_vor (d_cmp k_is (d_var 2) d_non) (d_vone (d_cmp k_le (d_var 0) (d_var 2)))))))))⟩
/-! digits_in -/
def b_digits_in : S → M Out := (sSeq (sOwn 2 (dLst aNil))
    (sSeq (sWhile (dTst (dBin gtI (dVar 0) (dC (.int 0))))
    (sSeq (sAsg (dCall divmodN (aCons (dVar 0) (aCons (dVar 1) aNil))) (gTp (gsCons (gNm 0) (gsCons (gNm 3) gsNil))))
    (sApp 2 (dVar 3))))
    (sPub 2 (sRet (dRev (dVar 2))))))
def f_digits_in : FnD := runP 4 b_digits_in
theorem sc_digits_in : FnScope ["number", "radix", "found", "digit"] ["number", "radix"] (defScope (top 6)) := ⟨rfl, rfl, rfl, by decide +kernel, rfl, by decide +kernel, by decide +kernel⟩
abbrev D_digits_in (K : PySem.W.Frag) (fd : FuncData) : Prop := FunD K "digits_in" "digits_in" (defArgs (top 6)) (defBody (top 6)) (defScope (top 6)) [] [] (He.ga K "digits_in") fd
theorem ok_digits_in {P : Program} {w : World} {K : PySem.W.Frag} {mg : Str → Option Value} {base : Heap} (Z : Ctx K mg) {fd : FuncData} (F : D_digits_in K fd) : FnG P w K mg base (L2.CX P w) 1 (He.ga K "digits_in") fd ["number", "radix"] (spP K (cl0 K) 2 f_digits_in) := by
  have fr_divmod : mg "divmod" = none := Z.fre "divmod" (by decide)
  have sc := sc_digits_in
  refine okP F sc rfl rfl (F := b_digits_in) fun cdv A outer s H E hg hr tk hp => ?_
  exact ⟨_, (s_cons (s_own 2 sc.nd (f_lst d_nil))
    (s_cons (s_while hp (d_tcmp k_gt (d_var 0) d_int)
    (s_cons (s_asg (d_callB c_divmod fr_divmod rfl (d_cons (d_var 0) (d_cons (d_var 1) d_nil))) (g_tup rfl (gs_cons (g_name 0 sc.nd) (gs_cons (g_name 3 sc.nd) gs_nil)) 2 (gsl_cons (gsl_cons gsl_nil))))
    (s_one (s_app 2 (d_var 3)))))
    (s_pub 2 (s_one (s_ret (d_of (f_rev (d_var 2))))))))⟩
/-! number_of -/
def b_number_of : S → M Out := (sSeq (sSet 2 (dC (.int 0)))
    (sSeq (sFor (iTp (dVar 0)) (gNm 3)
    (sSet 2 (dBin addI (dBin mulI (dVar 2) (dVar 1)) (dVar 3))))
    (sRet (dVar 2))))
def f_number_of : FnD := runP 4 b_number_of
theorem sc_number_of : FnScope ["digits", "radix", "found", "digit"] ["digits", "radix"] (defScope (top 7)) := ⟨rfl, rfl, rfl, by decide +kernel, rfl, by decide +kernel, by decide +kernel⟩
abbrev D_number_of (K : PySem.W.Frag) (fd : FuncData) : Prop := FunD K "number_of" "number_of" (defArgs (top 7)) (defBody (top 7)) (defScope (top 7)) [] [] (He.ga K "number_of") fd
theorem ok_number_of {P : Program} {w : World} {K : PySem.W.Frag} {mg : Str → Option Value} {base : Heap} (Z : Ctx K mg) {fd : FuncData} (F : D_number_of K fd) : FnG P w K mg base (L2.CX P w) 1 (He.ga K "number_of") fd ["digits", "radix"] (spP K (cl0 K) 2 f_number_of) := by
  have sc := sc_number_of
  refine okP F sc rfl rfl (F := b_number_of) fun cdv A outer s H E hg hr tk hp => ?_
  exact ⟨_, (s_cons (s_set 2 sc.nd d_int)
    (s_cons (s_for hp (w_tup (d_var 0)) (g_name 3 sc.nd)
    (s_one (s_set 2 sc.nd (d_op k_add (d_op k_mul (d_var 2) (d_var 1)) (d_var 3)))))
    (s_one (s_ret (d_var 2)))))⟩
/-! are_plain -/
def b_are_plain : S → M Out := (sRet (dBin ninA (dC (.int 2)) (dVar 0)))
def f_are_plain : FnD := runP 1 b_are_plain
theorem sc_are_plain : FnScope ["digits"] ["digits"] (defScope (top 8)) := ⟨rfl, rfl, rfl, by decide +kernel, rfl, by decide +kernel, by decide +kernel⟩
abbrev D_are_plain (K : PySem.W.Frag) (fd : FuncData) : Prop := FunD K "are_plain" "are_plain" (defArgs (top 8)) (defBody (top 8)) (defScope (top 8)) [] [] (He.ga K "are_plain") fd
theorem ok_are_plain {P : Program} {w : World} {K : PySem.W.Frag} {mg : Str → Option Value} {base : Heap} (Z : Ctx K mg) {fd : FuncData} (F : D_are_plain K fd) : FnG P w K mg base (L2.CX P w) 1 (He.ga K "are_plain") fd ["digits"] (spP K (cl0 K) 1 f_are_plain) := by
  have sc := sc_are_plain
  refine okP F sc rfl rfl (F := b_are_plain) fun cdv A outer s H E hg hr tk hp => ?_
  exact ⟨_, (s_one (s_ret (d_cmp (k_ninA (u65 hr)) d_int (d_var 0))))⟩
/-! Ternary_number -/
def b_Ternary_number : S → M Out := (sRet (dFld "Ternary" 0 (dVar 0)))
def f_Ternary_number : FnD := runP 1 b_Ternary_number
theorem sc_Ternary_number : FnScope ["self"] ["self"] (defScope (mth 9 4)) := ⟨rfl, rfl, rfl, by decide +kernel, rfl, by decide +kernel, by decide +kernel⟩
abbrev D_Ternary_number (K : PySem.W.Frag) (fd : FuncData) : Prop := FunD K "number" "Ternary.number" (defArgs (mth 9 4)) (defBody (mth 9 4)) (defScope (mth 9 4)) [] [] (At.adr K (.prop "Ternary" "number")) fd
theorem ok_Ternary_number {P : Program} {w : World} {K : PySem.W.Frag} {mg : Str → Option Value} {base : Heap} (Z : Ctx K mg) {fd : FuncData} (F : D_Ternary_number K fd) : FnG P w K mg base (L2.CX P w) 1 (At.adr K (.prop "Ternary" "number")) fd ["self"] (spP K (cl0 K) 1 f_Ternary_number) := by
  have kc_Ternary := cls_Ternary (K := K) Z.says
  have sc := sc_Ternary_number
  refine okP F sc rfl rfl (F := b_Ternary_number) fun cdv A outer s H E hg hr tk hp => ?_
  exact ⟨_, (s_one (s_ret (d_fld (j := 0) kc_Ternary (d_var 0))))⟩
/-! Ternary_digits -/
def b_Ternary_digits : S → M Out := (sRet (dUnz (dFld "Ternary" 1 (dVar 0))))
def f_Ternary_digits : FnD := runP 1 b_Ternary_digits
theorem sc_Ternary_digits : FnScope ["self"] ["self"] (defScope (mth 9 5)) := ⟨rfl, rfl, rfl, by decide +kernel, rfl, by decide +kernel, by decide +kernel⟩
abbrev D_Ternary_digits (K : PySem.W.Frag) (fd : FuncData) : Prop := FunD K "digits" "Ternary.digits" (defArgs (mth 9 5)) (defBody (mth 9 5)) (defScope (mth 9 5)) [] [] (At.adr K (.prop "Ternary" "digits")) fd
theorem ok_Ternary_digits {P : Program} {w : World} {K : PySem.W.Frag} {mg : Str → Option Value} {base : Heap} (Z : Ctx K mg) {fd : FuncData} (F : D_Ternary_digits K fd) : FnG P w K mg base (L2.CX P w) 1 (At.adr K (.prop "Ternary" "digits")) fd ["self"] (spP K (cl0 K) 1 f_Ternary_digits) := by
  have kc_Ternary := cls_Ternary (K := K) Z.says
  have sc := sc_Ternary_digits
  refine okP F sc rfl rfl (F := b_Ternary_digits) fun cdv A outer s H E hg hr tk hp => ?_
  exact ⟨_, (s_one (s_ret (d_unz (d_fld (j := 1) kc_Ternary (d_var 0)))))⟩
/-! Ternary_ones -/
def b_Ternary_ones : S → M Out := (sRet (dCntZ (dFld "Ternary" 1 (dVar 0)) (dC (.int 1))))
def f_Ternary_ones : FnD := runP 1 b_Ternary_ones
theorem sc_Ternary_ones : FnScope ["self"] ["self"] (defScope (mth 9 6)) := ⟨rfl, rfl, rfl, by decide +kernel, rfl, by decide +kernel, by decide +kernel⟩
abbrev D_Ternary_ones (K : PySem.W.Frag) (fd : FuncData) : Prop := FunD K "ones" "Ternary.ones" (defArgs (mth 9 6)) (defBody (mth 9 6)) (defScope (mth 9 6)) [] [] (At.adr K (.prop "Ternary" "ones")) fd
theorem ok_Ternary_ones {P : Program} {w : World} {K : PySem.W.Frag} {mg : Str → Option Value} {base : Heap} (Z : Ctx K mg) {fd : FuncData} (F : D_Ternary_ones K fd) : FnG P w K mg base (L2.CX P w) 1 (At.adr K (.prop "Ternary" "ones")) fd ["self"] (spP K (cl0 K) 1 f_Ternary_ones) := by
  have kc_Ternary := cls_Ternary (K := K) Z.says
  have sc := sc_Ternary_ones
  refine okP F sc rfl rfl (F := b_Ternary_ones) fun cdv A outer s H E hg hr tk hp => ?_
  exact ⟨_, (s_one (s_ret (d_cntZ (d_fld (j := 1) kc_Ternary (d_var 0)) d_int)))⟩
/-! Ternary_eq -/
def b_Ternary_eq : S → M Out := (sRet (vAnd (dIsA [("Ternary", true)] [("NoneType", false), ("bool", false), ("int", false), ("str", false), ("list", false), ("tuple", false), ("dict", false)] (dVar 1)) (dBin eqD (dFld "Ternary" 0 (dVar 0)) (dFld "Ternary" 0 (dVar 1)))))
def f_Ternary_eq : FnD := runP 2 b_Ternary_eq
theorem sc_Ternary_eq : FnScope ["self", "other"] ["self", "other"] (defScope (mth 9 8)) := ⟨rfl, rfl, rfl, by decide +kernel, rfl, by decide +kernel, by decide +kernel⟩
abbrev D_Ternary_eq (K : PySem.W.Frag) (fd : FuncData) : Prop := FunD K "__eq__" "Ternary.__eq__" (defArgs (mth 9 8)) (defBody (mth 9 8)) (defScope (mth 9 8)) [] [] (He.ma K (He.ga K "Ternary") "__eq__") fd
theorem ok_Ternary_eq {P : Program} {w : World} {K : PySem.W.Frag} {mg : Str → Option Value} {base : Heap} (Z : Ctx K mg) {fd : FuncData} (F : D_Ternary_eq K fd) : FnG P w K mg base (L2.CX P w) 1 (He.ma K (He.ga K "Ternary") "__eq__") fd ["self", "other"] (spP K (cl0 K) 2 f_Ternary_eq) := by
  have fr_isinstance : mg "isinstance" = none := Z.fre "isinstance" (by decide)
  have kc_Ternary := cls_Ternary (K := K) Z.says
  have mg_Ternary : mg "Ternary" = some (.ref (He.ga K "Ternary")) := Z.glo "Ternary" (by decide)
  have ic_Ternary := ins_of kc_Ternary.cls (ex_17 Z.says)
  have sc := sc_Ternary_eq
  refine okP F sc rfl rfl (F := b_Ternary_eq) fun cdv A outer s H E hg hr tk hp => ?_
  exact ⟨_, (s_one (s_ret (d_vand (d_isA [("Ternary", true)] [("NoneType", false), ("bool", false), ("int", false), ("str", false), ("list", false), ("tuple", false), ("dict", false)] (tb_cons ⟨_, _, kc_Ternary.at_, ic_Ternary, kitX_ok (ex_18 Z.says)⟩ tb_nil) (tt_cons (kitX_ok (ex_25 Z.says)) (tt_cons (kitX_ok (ex_24 Z.says)) (tt_cons (kitX_ok (ex_23 Z.says)) (tt_cons (kitX_ok (ex_22 Z.says)) (tt_cons (kitX_ok (ex_21 Z.says)) (tt_cons (kitX_ok (ex_20 Z.says)) (tt_cons (kitX_ok (ex_19 Z.says)) tt_nil))))))) (d_var 1) fr_isinstance mg_Ternary rfl) (d_vone (d_cmp (k_eqD (u64 hr)) (d_fld (j := 0) kc_Ternary (d_var 0)) (d_fld (j := 0) kc_Ternary (d_var 1)))))))⟩
/-! Ternary_eq_T -/
def b_Ternary_eq_T : S → M Out := (sRet (vAnd (dIsU [] [("tuple", false)] (dVar 1)) (dBin eqD (dFld "Ternary" 0 (dVar 0)) dNever)))
def f_Ternary_eq_T : FnD := runP 2 b_Ternary_eq_T
theorem sc_Ternary_eq_T : FnScope ["self", "other"] ["self", "other"] (defScope (mth 9 8)) := ⟨rfl, rfl, rfl, by decide +kernel, rfl, by decide +kernel, by decide +kernel⟩
abbrev D_Ternary_eq_T (K : PySem.W.Frag) (fd : FuncData) : Prop := FunD K "__eq__" "Ternary.__eq__" (defArgs (mth 9 8)) (defBody (mth 9 8)) (defScope (mth 9 8)) [] [] (He.ma K (He.ga K "Ternary") "__eq__") fd
theorem ok_Ternary_eq_T {P : Program} {w : World} {K : PySem.W.Frag} {mg : Str → Option Value} {base : Heap} (Z : Ctx K mg) {fd : FuncData} (F : D_Ternary_eq_T K fd) : FnG P w K mg base (L2.CX P w) 1 (He.ma K (He.ga K "Ternary") "__eq__") fd ["self", "other"] (spP K (cl0 K) 2 f_Ternary_eq_T) := by
  have fr_isinstance : mg "isinstance" = none := Z.fre "isinstance" (by decide)
  have kc_Ternary := cls_Ternary (K := K) Z.says
  have mg_Ternary : mg "Ternary" = some (.ref (He.ga K "Ternary")) := Z.glo "Ternary" (by decide)
  have sc := sc_Ternary_eq_T
  refine okP F sc rfl rfl (F := b_Ternary_eq_T) fun cdv A outer s H E hg hr tk hp => ?_
  exact ⟨_, (s_one (s_ret (d_vand (d_isU [] [("tuple", false)] tb_nil (tt_cons (kitX_ok (ex_20 Z.says)) tt_nil) (d_var 1) fr_isinstance mg_Ternary rfl) (d_vone (d_cmp (k_eqD (u64 hr)) (d_fld (j := 0) kc_Ternary (d_var 0)) d_never)))))⟩
/-! Ternary_str -/
def b_Ternary_str : S → M Out := (sSeq (sIf (dTst (dBin eqD (dFld "Ternary" 0 (dVar 0)) (dC (.int 0))))
    (sRet (dC (.str "0")))
    sNil)
    (sRet (dJoin (dC (.str "")) (dComp (iTp (dUnz (dFld "Ternary" 1 (dVar 0)))) [1] (gNm 1) tTrue (dCall strN (aCons (dVar 1) aNil))))))
def f_Ternary_str : FnD := runP 2 b_Ternary_str
theorem sc_Ternary_str : FnScope ["self", "digit"] ["self"] (defScope (mth 9 9)) := ⟨rfl, rfl, rfl, by decide +kernel, rfl, by decide +kernel, by decide +kernel⟩
abbrev D_Ternary_str (K : PySem.W.Frag) (fd : FuncData) : Prop := FunD K "__str__" "Ternary.__str__" (defArgs (mth 9 9)) (defBody (mth 9 9)) (defScope (mth 9 9)) [] [] (He.ma K (He.ga K "Ternary") "__str__") fd
theorem ok_Ternary_str {P : Program} {w : World} {K : PySem.W.Frag} {mg : Str → Option Value} {base : Heap} (Z : Ctx K mg) {fd : FuncData} (F : D_Ternary_str K fd) : FnG P w K mg base (L2.CX P w) 1 (He.ma K (He.ga K "Ternary") "__str__") fd ["self"] (spP K (cl0 K) 1 f_Ternary_str) := by
  have fr_str : mg "str" = none := Z.fre "str" (by decide)
  have kc_Ternary := cls_Ternary (K := K) Z.says
  have sc := sc_Ternary_str
  refine okP F sc rfl rfl (F := b_Ternary_str) fun cdv A outer s H E hg hr tk hp => ?_
  exact ⟨_, (s_cons (s_if (d_tcmp (k_eqD (u64 hr)) (d_fld (j := 0) kc_Ternary (d_var 0)) d_int)
    (s_one (s_ret d_str))
    s_nil)
    (s_one (s_ret (d_join d_str (d_of (f_comp (own := [("digit", 1)]) rfl sc.nd (w_tup (d_unz (d_fld (j := 1) kc_Ternary (d_var 0)))) (blkOk_by (N := ["self", "digit"]) (sc := defScope (mth 9 9)) (by decide +kernel)) (fun _ _ _ _ _ => (g_name 1 sc.nd)) (fun _ _ _ _ _ => t_nil) (fun _ _ _ _ _ => (d_callT c_str fr_str rfl (d_cons (d_var 1) d_nil))) (by decide)))))))⟩
/-! _law_mixed -/
def b__law_mixed : S → M Out := (sSeq (sSet 0 (dBin modI (dBin mulI (dBin addI (dBin addI (dBin modI (dVar 0) (dC (.int 2147483647))) (dBin mulI (dBin mulI (dC (.int 7919)) (dVar 1)) (dVar 1))) (dBin mulI (dC (.int 31)) (dVar 1))) (dC (.int 48271))) (dC (.int 2147483647))))
    (sRet (dBin modI (dBin mulI (dVar 0) (dBin addI (dC (.int 69621)) (dBin mulI (dC (.int 2)) (dVar 1)))) (dC (.int 2147483629)))))
def f__law_mixed : FnD := runP 2 b__law_mixed
theorem sc__law_mixed : FnScope ["_law_amount", "_law_k"] ["_law_amount", "_law_k"] (defScope (top 11)) := ⟨rfl, rfl, rfl, by decide +kernel, rfl, by decide +kernel, by decide +kernel⟩
abbrev D__law_mixed (K : PySem.W.Frag) (fd : FuncData) : Prop := FunD K "_law_mixed" "_law_mixed" (defArgs (top 11)) (defBody (top 11)) (defScope (top 11)) [] [] (He.ga K "_law_mixed") fd
theorem ok__law_mixed {P : Program} {w : World} {K : PySem.W.Frag} {mg : Str → Option Value} {base : Heap} (Z : Ctx K mg) {fd : FuncData} (F : D__law_mixed K fd) : FnG P w K mg base (L2.CX P w) 1 (He.ga K "_law_mixed") fd ["_law_amount", "_law_k"] (spP K (cl0 K) 2 f__law_mixed) := by
  have sc := sc__law_mixed
  refine okP F sc rfl rfl (F := b__law_mixed) fun cdv A outer s H E hg hr tk hp => ?_
  exact ⟨_, (s_cons (s_set 0 sc.nd (d_op k_mod (d_op k_mul (d_op k_add (d_op k_add (d_op k_mod (d_var 0) d_int) (d_op k_mul (d_op k_mul d_int (d_var 1)) (d_var 1))) (d_op k_mul d_int (d_var 1))) d_int) d_int))
    (s_one (s_ret (d_op k_mod (d_op k_mul (d_var 0) (d_op k_add d_int (d_op k_mul d_int (d_var 1)))) d_int))))⟩
/-! _law_digits -/
def b__law_digits : S → M Out := (sSeq (sOwn 2 (dLst aNil))
    (sSeq (sWhile (dTst (dBin gtI (dVar 0) (dC (.int 0))))
    (sSeq (sApp 2 (dBin modI (dVar 0) (dVar 1)))
    (sSet 0 (dBin divI (dVar 0) (dVar 1)))))
    (sPub 2 (sRet (dVar 2)))))
def f__law_digits : FnD := runP 3 b__law_digits
theorem sc__law_digits : FnScope ["_law_given", "_law_radix", "_law_found"] ["_law_given", "_law_radix"] (defScope (top 15)) := ⟨rfl, rfl, rfl, by decide +kernel, rfl, by decide +kernel, by decide +kernel⟩
abbrev D__law_digits (K : PySem.W.Frag) (fd : FuncData) : Prop := FunD K "_law_digits" "_law_digits" (defArgs (top 15)) (defBody (top 15)) (defScope (top 15)) [] [] (He.ga K "_law_digits") fd
theorem ok__law_digits {P : Program} {w : World} {K : PySem.W.Frag} {mg : Str → Option Value} {base : Heap} (Z : Ctx K mg) {fd : FuncData} (F : D__law_digits K fd) : FnG P w K mg base (L2.CX P w) 1 (He.ga K "_law_digits") fd ["_law_given", "_law_radix"] (spP K (cl0 K) 2 f__law_digits) := by
  have sc := sc__law_digits
  refine okP F sc rfl rfl (F := b__law_digits) fun cdv A outer s H E hg hr tk hp => ?_
  exact ⟨_, (s_cons (s_own 2 sc.nd (f_lst d_nil))
    (s_cons (s_while hp (d_tcmp k_gt (d_var 0) d_int)
    (s_cons (s_app 2 (d_op k_mod (d_var 0) (d_var 1)))
    (s_one (s_set 0 sc.nd (d_op k_div (d_var 0) (d_var 1))))))
    (s_pub 2 (s_one (s_ret (d_var 2))))))⟩
/-! _law_told -/
end Tf
namespace Tf
open PySem Dt
def b__law_told (x : D) (r : M D) : S → M Out := (sSeq (sSet 1 (dC .non))
    (sSeq (sTryE 3 2 1 [("InvalidNumber", true)]
    (sExpr (dAct 0 x r)))
    (sRet (dIf (dTst (dIsE [("InvalidNumber", true)] (dVar 1))) (dLst (aCons (dErrF [("InvalidNumber", 0)] (dVar 1)) aNil)) (dLst aNil)))))
def T__law_told : M D → M D
  | none => none
  | some (.ok _) => ok (.lst [])
  | some (.ex e _) => match e.fs with
    | [] => none
    | d :: _ => if e.c = "InvalidNumber" then ok (.lst [d]) else none
theorem tl__law_told (f c : Addr) (q : Str) (vs : List L2.V) (ds : List D) (r : M D) : runP 3 (b__law_told (.fn f c q vs ds) r) [.fn f c q vs ds] = T__law_told r := by
  generalize D.fn f c q vs ds = x
  have z0 : 0 ≤ sizeLine := Nat.zero_le _
  have z1 : 0 + 1 ≤ sizeLine := by
    show 1 ≤ 2 ^ 24
    decide
  have k1 : sSet 1 (dC .non) [.val x, .un, .un] = ok (.nx [.val x, .val .non, .un]) := rfl
  show bd (b__law_told x r [.val x, .un, .un]) _ = _
  unfold b__law_told
  rw [seq_at k1]
  have ac : ∀ r : M D, (sExpr (dAct 0 x (r))) [.val x, .val .non, .un] = bdC r [.val x, .val .non, .un] fun d => ok (.nx [.val x, .val .non, .un]) := fun r => by
    unfold sExpr
    rw [dAct_ev rfl]
    rcases r with _ | (y | ⟨e, s⟩)
    · rfl
    · rfl
    · rfl
  have tN : ∀ tb, sTryE 3 2 1 tb (sExpr (dAct 0 x (none))) [.val x, .val .non, .un] = none := fun tb => tryE_none rfl ((ac none).trans rfl)
  have tO : ∀ tb (y : D), sTryE 3 2 1 tb (sExpr (dAct 0 x (some (.ok y)))) [.val x, .val .non, .un] = ok (.nx [.val x, .val .non, .un]) := fun tb y => tryE_ok rfl ((ac _).trans rfl)
  have tX : ∀ tb (c : Str) (fs : List D) (s : S), tb.lookup c = some true → fs ≠ [] → sTryE 3 2 1 tb (sExpr (dAct 0 x (some (.ex ⟨c, fs⟩ s)))) [.val x, .val .non, .un] = ok (.nx [.val x, .val (.err c fs), .un]) := fun tb c fs s h1 h2 => tryE_ex (e := ⟨c, fs⟩) (s1 := [.val x, .val .non, .un]) rfl ((ac _).trans rfl) h1 h2 rfl
  have tZ : ∀ tb (c : Str) (s : S), (∀ p ∈ tb, p.2 = true) → sTryE 3 2 1 tb (sExpr (dAct 0 x (some (.ex ⟨c, []⟩ s)))) [.val x, .val .non, .un] = none := fun tb c s h1 => tryE_nil (e := ⟨c, []⟩) (s1 := [.val x, .val .non, .un]) rfl ((ac _).trans rfl) h1 rfl
  have tW : ∀ tb (c : Str) (fs : List D) (s : S), tb.lookup c = none → sTryE 3 2 1 tb (sExpr (dAct 0 x (some (.ex ⟨c, fs⟩ s)))) [.val x, .val .non, .un] = none := fun tb c fs s h1 => tryE_no (e := ⟨c, fs⟩) (s1 := [.val x, .val .non, .un]) rfl ((ac _).trans rfl) h1
  rcases r with _ | (y | ⟨⟨c, fs⟩, s⟩)
  · rw [seq_none (tN _)]
    rfl
  · rw [seq_at (tO _ y)]
    kernel_rfl
  · rcases fs with _ | ⟨d, fs⟩
    · rw [seq_none (tZ _ c s (by intro p hp; simp only [List.mem_cons, List.not_mem_nil, or_false] at hp; subst hp; rfl))]
      rfl
    by_cases h_InvalidNumber : c = "InvalidNumber"
    · subst h_InvalidNumber
      rw [seq_at (tX _ _ _ s rfl (List.cons_ne_nil _ _))]
      kernel_rfl
    have hn : ([("InvalidNumber", true)] : List (Str × Bool)).lookup c = none := by simp only [List.lookup, beq_eq_false_iff_ne.mpr h_InvalidNumber]
    rw [seq_none (tW _ c (d :: fs) s hn)]
    show none = T__law_told (some (.ex ⟨c, d :: fs⟩ s))
    simp only [T__law_told, h_InvalidNumber, if_false]
end Tf
namespace Tf
open PySem PySem.Spec PyProof.Rows L2 Dt
theorem sc__law_told : FnScope ["_law_call", "_law_caught", "error"] ["_law_call"] (defScope (top 18)) := ⟨rfl, rfl, rfl, by decide +kernel, rfl, by decide +kernel, by decide +kernel⟩
abbrev D__law_told (K : PySem.W.Frag) (fd : FuncData) : Prop := FunD K "_law_told" "_law_told" (defArgs (top 18)) (defBody (top 18)) (defScope (top 18)) [] [] (He.ga K "_law_told") fd
theorem ok__law_told {P : Program} {w : World} {K : PySem.W.Frag} {mg : Str → Option Value} {base : Heap} (Z : Ctx K mg) {fd : FuncData} (F : D__law_told K fd) : FnL P w K mg base (cl0 K) 1 (He.ga K "_law_told") fd "_law_call" T__law_told := by
  have fr_isinstance : mg "isinstance" = none := Z.fre "isinstance" (by decide)
  have mg_InvalidNumber : mg "InvalidNumber" = some (.ref (He.ga K "InvalidNumber")) := Z.glo "InvalidNumber" (by decide)
  have mg_SetError : mg "SetError" = some (.ref (He.ga K "SetError")) := Z.glo "SetError" (by decide)
  have ke_InvalidNumber : cl0 K "InvalidNumber" = some (He.ga K "InvalidNumber", (["given"] : List Str)) := clE_InvalidNumber
  have er_InvalidNumber : ErrC K (He.ga K "InvalidNumber") ["given"] := err_of (ex_0 Z.says)
  have xg_InvalidNumber := excg_of PySem.F.excBase_ValueError PySem.F.store_ValueError (ex_1 Z.says)
  have sc := sc__law_told
  refine okL 0 F sc tl__law_told rfl (by first | exact Or.inl rfl | exact Or.inr (Or.inl rfl)) (F := b__law_told) fun cdv A outer s H E x r hg hr tk hp act => ?_
  exact ⟨_, (s_cons (s_set 1 sc.nd d_non)
    (s_cons (s_tryE (i := 2) (j := 1) (m := 3) [("InvalidNumber", true)] (by exact (tb_cons ⟨_, _, ke_InvalidNumber, ht_name (namesG mg_SetError) (exmX_ok (ex_26 Z.says))⟩ tb_nil)) rfl rfl sc.nd fun _ _ _ tk hp => (s_one (s_expr (act _ _ _ _ _ tk))))
    (s_one (s_ret (d_ifx (d_tst (d_isE [("InvalidNumber", true)] (kitX_ok (ex_28 Z.says)) (tb_cons ⟨_, _, ke_InvalidNumber, er_InvalidNumber, kitX_ok (ex_27 Z.says)⟩ tb_nil) (d_var 1) fr_isinstance mg_InvalidNumber rfl)) (d_of (f_lst (d_cons (d_errF [("InvalidNumber", 0)] (tb_cons ⟨_, _, ke_InvalidNumber, er_InvalidNumber, rfl⟩ tb_nil) (d_var 1)) d_nil))) (d_of (f_lst d_nil)))))))⟩
/-! Ternary_is_plain -/
def b_Ternary_is_plain : S → M Out := (sRet (dCallU 1 f_are_plain [] (aCons (dUnz (dFld "Ternary" 1 (dVar 0))) aNil)))
def f_Ternary_is_plain : FnD := runP 1 b_Ternary_is_plain
theorem sc_Ternary_is_plain : FnScope ["self"] ["self"] (defScope (mth 9 7)) := ⟨rfl, rfl, rfl, by decide +kernel, rfl, by decide +kernel, by decide +kernel⟩
abbrev D_Ternary_is_plain (K : PySem.W.Frag) (fd : FuncData) : Prop := FunD K "is_plain" "Ternary.is_plain" (defArgs (mth 9 7)) (defBody (mth 9 7)) (defScope (mth 9 7)) [] [] (At.adr K (.prop "Ternary" "is_plain")) fd
theorem ok_Ternary_is_plain {P : Program} {w : World} {K : PySem.W.Frag} {mg : Str → Option Value} {base : Heap} (Z : Ctx K mg) {fd : FuncData} (F : D_Ternary_is_plain K fd) : FnG P w K mg base (L2.CX P w) 2 (At.adr K (.prop "Ternary" "is_plain")) fd ["self"] (spP K (cl0 K) 1 f_Ternary_is_plain) := by
  obtain ⟨fd_are_plain, F_are_plain⟩ : ∃ fd, D_are_plain K fd := Z.says.def_ 4 (d := (dd (.fn "are_plain") "are_plain" "are_plain" (top 8) [] [])) rfl
  have G_are_plain : FnG P w K mg base (L2.CX P w) 1 _ fd_are_plain ["digits"] _ := ok_are_plain Z F_are_plain
  have m_are_plain : mg "are_plain" = some (.ref (He.ga K "are_plain")) := Z.glo "are_plain" (by decide)
  have kc_Ternary := cls_Ternary (K := K) Z.says
  have b_are_plain : Binds K fd_are_plain ["digits"] [] := F_are_plain.bindsN fun _ _ _ _ _ _ us hl => match us, hl with | [_], _ => rfl
  have sc := sc_Ternary_is_plain
  refine okP F sc rfl rfl (F := b_Ternary_is_plain) fun cdv A outer s H E hg hr tk hp => ?_
  exact ⟨_, (s_one (s_ret (d_call G_are_plain hg (hr.mono (by decide)) m_are_plain F_are_plain.kp b_are_plain .nil (fun _ => .nil) (d_cons (d_unz (d_fld (j := 1) kc_Ternary (d_var 0))) d_nil))))⟩
/-! Ternary_is_digit -/
def b_Ternary_is_digit : S → M Out := (sRet (dCallK 3 1 2 f_is_integer (fun as bs => as ++ bs) (aCons (dVar 0) aNil) (aCons (dC (.int 0)) (aCons (dC (.int 2)) aNil))))
def f_Ternary_is_digit : FnD := runP 1 b_Ternary_is_digit
theorem sc_Ternary_is_digit : FnScope ["value"] ["value"] (defScope (mth 9 2)) := ⟨rfl, rfl, rfl, by decide +kernel, rfl, by decide +kernel, by decide +kernel⟩
abbrev D_Ternary_is_digit (K : PySem.W.Frag) (fd : FuncData) : Prop := FunD K "is_digit" "Ternary.is_digit" (defArgs (mth 9 2)) (defBody (mth 9 2)) (defScope (mth 9 2)) [] [] (At.adr K (.stat "Ternary" "is_digit")) fd
theorem ok_Ternary_is_digit {P : Program} {w : World} {K : PySem.W.Frag} {mg : Str → Option Value} {base : Heap} (Z : Ctx K mg) {fd : FuncData} (F : D_Ternary_is_digit K fd) : FnG P w K mg base (L2.CX P w) 2 (At.adr K (.stat "Ternary" "is_digit")) fd ["value"] (spP K (cl0 K) 1 f_Ternary_is_digit) := by
  obtain ⟨fd_is_integer, F_is_integer⟩ : ∃ fd, D_is_integer K fd := Z.says.def_ 0 (d := (dd (.fn "is_integer") "is_integer" "is_integer" (top 4) [] [("low", .non), ("high", .non)])) rfl
  have G_is_integer : FnG P w K mg base (L2.CX P w) 1 _ fd_is_integer ["value", "low", "high"] _ := ok_is_integer Z F_is_integer
  have m_is_integer : mg "is_integer" = some (.ref (He.ga K "is_integer")) := Z.glo "is_integer" (by decide)
  obtain ⟨mvb_is_integer_1_low_high, b_is_integer_1_low_high⟩ := F_is_integer.kbinds0 1 ["low", "high"] [] (ps := ["value", "low", "high"]) (fun as _ bs => as ++ bs) (by decide) (fun _ h => by cases h) (fun a _ b => a.append b) fun _ _ _ _ _ _ us mv ws h1 h0 h2 => match us, mv, ws, h1, h0, h2 with | [_], [], [_, _], _, _, _ => rfl
  have sc := sc_Ternary_is_digit
  refine okP F sc rfl rfl (F := b_Ternary_is_digit) fun cdv A outer s H E hg hr tk hp => ?_
  exact ⟨_, (s_one (s_ret (d_callK (ks := ["low", "high"]) (gD := (fun as bs => as ++ bs)) G_is_integer hg (hr.mono (by decide)) m_is_integer F_is_integer.kp b_is_integer_1_low_high (fun _ _ _ _ _ a b => a.append b) (d_cons (d_var 0) d_nil) (k_cons d_int (k_cons d_int k_nil)))))⟩
/-! _law_stream -/
def b__law_stream : S → M Out := (sRetF (dLst (aCons (dIf (dTst (dBin geI (dVar 0) (dBin powI (dC (.int 10)) (dC (.int 18))))) (dVar 0) (dC (.int 0))) (aCons (dC (.int 0)) (aCons (dCallU 2 f__law_mixed [] (aCons (dVar 0) (aCons (dVar 1) aNil))) aNil)))))
def f__law_stream : FnD := runF 2 b__law_stream
theorem sc__law_stream : FnScope ["_law_item", "_law_k"] ["_law_item", "_law_k"] (defScope (top 12)) := ⟨rfl, rfl, rfl, by decide +kernel, rfl, by decide +kernel, by decide +kernel⟩
abbrev D__law_stream (K : PySem.W.Frag) (fd : FuncData) : Prop := FunD K "_law_stream" "_law_stream" (defArgs (top 12)) (defBody (top 12)) (defScope (top 12)) [] [] (He.ga K "_law_stream") fd
theorem ok__law_stream {P : Program} {w : World} {K : PySem.W.Frag} {mg : Str → Option Value} {base : Heap} (Z : Ctx K mg) {fd : FuncData} (F : D__law_stream K fd) : FnG P w K mg base (L2.CX P w) 2 (He.ga K "_law_stream") fd ["_law_item", "_law_k"] (spF K (cl0 K) 2 f__law_stream) := by
  obtain ⟨fd__law_mixed, F__law_mixed⟩ : ∃ fd, D__law_mixed K fd := Z.says.def_ 5 (d := (dd (.fn "_law_mixed") "_law_mixed" "_law_mixed" (top 11) [] [])) rfl
  have G__law_mixed : FnG P w K mg base (L2.CX P w) 1 _ fd__law_mixed ["_law_amount", "_law_k"] _ := ok__law_mixed Z F__law_mixed
  have m__law_mixed : mg "_law_mixed" = some (.ref (He.ga K "_law_mixed")) := Z.glo "_law_mixed" (by decide)
  have b__law_mixed : Binds K fd__law_mixed ["_law_amount", "_law_k"] [] := F__law_mixed.bindsN fun _ _ _ _ _ _ us hl => match us, hl with | [_, _], _ => rfl
  have sc := sc__law_stream
  refine okF F sc rfl rfl (F := b__law_stream) fun cdv A outer s H E hg hr tk hp => ?_
  exact ⟨_, (s_one (s_retF (f_lst (d_cons (d_ifx (d_tcmp k_ge (d_var 0) (d_op k_pow d_int d_int)) (d_var 0) d_int) (d_cons d_int (d_cons (d_call G__law_mixed hg (hr.mono (by decide)) m__law_mixed F__law_mixed.kp b__law_mixed .nil (fun _ => .nil) (d_cons (d_var 0) (d_cons (d_var 1) d_nil))) d_nil))))))⟩
/-! _law_draw -/
def b__law_draw : S → M Out := (sSeq (sPut 0 (dC (.int 1)) (dBin addI (dOwnIx 0 (dC (.int 1))) (dC (.int 1))))
    (sSeq (sIf (dTst (dBin eqD (dOwnIx 0 (dC (.int 0))) (dC (.int 0))))
    (sRet (dBin modI (dCallU 2 f__law_mixed [] (aCons (dCallU 2 f__law_mixed [] (aCons (dOwnIx 0 (dC (.int 2))) (aCons (dOwnIx 0 (dC (.int 1))) aNil))) (aCons (dC (.int 7)) aNil))) (dVar 1)))
    sNil)
    (sSeq (sSet 2 (dBin modI (dOwnIx 0 (dC (.int 0))) (dVar 1)))
    (sSeq (sPut 0 (dC (.int 0)) (dBin divI (dOwnIx 0 (dC (.int 0))) (dVar 1)))
    (sRet (dVar 2))))))
def f__law_draw : D → List D → M (D × D) := runI 3 b__law_draw
theorem sc__law_draw : FnScope ["_law_stream_here", "_law_top", "_law_amount"] ["_law_stream_here", "_law_top"] (defScope (top 13)) := ⟨rfl, rfl, rfl, by decide +kernel, rfl, by decide +kernel, by decide +kernel⟩
abbrev D__law_draw (K : PySem.W.Frag) (fd : FuncData) : Prop := FunD K "_law_draw" "_law_draw" (defArgs (top 13)) (defBody (top 13)) (defScope (top 13)) [] [] (He.ga K "_law_draw") fd
theorem ok__law_draw {P : Program} {w : World} {K : PySem.W.Frag} {mg : Str → Option Value} {base : Heap} (Z : Ctx K mg) {fd : FuncData} (F : D__law_draw K fd) : FnG P w K mg base (L2.CX P w) 2 (He.ga K "_law_draw") fd ["_law_stream_here", "_law_top"] (spI K (cl0 K) 2 f__law_draw) := by
  obtain ⟨fd__law_mixed, F__law_mixed⟩ : ∃ fd, D__law_mixed K fd := Z.says.def_ 5 (d := (dd (.fn "_law_mixed") "_law_mixed" "_law_mixed" (top 11) [] [])) rfl
  have G__law_mixed : FnG P w K mg base (L2.CX P w) 1 _ fd__law_mixed ["_law_amount", "_law_k"] _ := ok__law_mixed Z F__law_mixed
  have m__law_mixed : mg "_law_mixed" = some (.ref (He.ga K "_law_mixed")) := Z.glo "_law_mixed" (by decide)
  have b__law_mixed : Binds K fd__law_mixed ["_law_amount", "_law_k"] [] := F__law_mixed.bindsN fun _ _ _ _ _ _ us hl => match us, hl with | [_, _], _ => rfl
  have sc := sc__law_draw
  refine okI F sc rfl rfl (by decide) (F := b__law_draw) fun cdv A outer s H E hg hr tk hp => ?_
  exact ⟨_, (s_cons (s_put 0 (d_op k_add (d_ownIx 0 d_int (fun _ _ => rfl)) d_int) d_int)
    (s_cons (s_if (d_tcmp (k_eqD (u64 hr)) (d_ownIx 0 d_int (fun _ _ => rfl)) d_int)
    (s_one (s_ret (d_op k_mod (d_call G__law_mixed hg (hr.mono (by decide)) m__law_mixed F__law_mixed.kp b__law_mixed .nil (fun _ => .nil) (d_cons (d_call G__law_mixed hg (hr.mono (by decide)) m__law_mixed F__law_mixed.kp b__law_mixed .nil (fun _ => .nil) (d_cons (d_ownIx 0 d_int (fun _ _ => rfl)) (d_cons (d_ownIx 0 d_int (fun _ _ => rfl)) d_nil))) (d_cons d_int d_nil))) (d_var 1))))
    s_nil)
    (s_cons (s_set 2 sc.nd (d_op k_mod (d_ownIx 0 d_int (fun _ _ => rfl)) (d_var 1)))
    (s_cons (s_put 0 (d_op k_div (d_ownIx 0 d_int (fun _ _ => rfl)) (d_var 1)) d_int)
    (s_one (s_ret (d_var 2)))))))⟩
/-! check_number -/
def b_check_number : S → M Out := (sIf (dNot (dTst (dCallK 3 1 2 f_is_integer (fun as bs => as ++ bs) (aCons (dVar 0) aNil) (aCons (dVar 1) (aCons (dVar 2) aNil)))))
    (sRaise "InvalidNumber" 1 (aCons (dVar 0) aNil))
    sNil)
def f_check_number : FnD := runP 3 b_check_number
theorem sc_check_number : FnScope ["value", "low", "high"] ["value", "low", "high"] (defScope (top 5)) := ⟨rfl, rfl, rfl, by decide +kernel, rfl, by decide +kernel, by decide +kernel⟩
abbrev D_check_number (K : PySem.W.Frag) (fd : FuncData) : Prop := FunD K "check_number" "check_number" (defArgs (top 5)) (defBody (top 5)) (defScope (top 5)) [(V.int 0), V.non] [] (He.ga K "check_number") fd
theorem ok_check_number {P : Program} {w : World} {K : PySem.W.Frag} {mg : Str → Option Value} {base : Heap} (Z : Ctx K mg) {fd : FuncData} (F : D_check_number K fd) : FnG P w K mg base (L2.CX P w) 3 (He.ga K "check_number") fd ["value", "low", "high"] (spP K (cl0 K) 3 f_check_number) := by
  obtain ⟨fd_is_integer, F_is_integer⟩ : ∃ fd, D_is_integer K fd := Z.says.def_ 0 (d := (dd (.fn "is_integer") "is_integer" "is_integer" (top 4) [] [("low", .non), ("high", .non)])) rfl
  have G_is_integer : FnG P w K mg base (L2.CX P w) 1 _ fd_is_integer ["value", "low", "high"] _ := ok_is_integer Z F_is_integer
  have m_is_integer : mg "is_integer" = some (.ref (He.ga K "is_integer")) := Z.glo "is_integer" (by decide)
  obtain ⟨fd_InvalidNumber_init, F_InvalidNumber_init⟩ : ∃ fd, D_InvalidNumber_init K fd := Z.says.def_ 15 (d := (dd (.meth "InvalidNumber" "__init__") "__init__" "InvalidNumber.__init__" (mth 2 0) [] [])) rfl
  have G_InvalidNumber_init : FnG P w K mg base (L2.CX P w) 1 _ fd_InvalidNumber_init ["self", "given"] _ := ok_InvalidNumber_init Z F_InvalidNumber_init
  have me_InvalidNumber_init := He.meth_ok (x := "InvalidNumber") (m := "__init__") (Z.says.at_ 15 (d := (dd (.meth "InvalidNumber" "__init__") "__init__" "InvalidNumber.__init__" (mth 2 0) [] [])) rfl)
  have mg_InvalidNumber : mg "InvalidNumber" = some (.ref (He.ga K "InvalidNumber")) := Z.glo "InvalidNumber" (by decide)
  have ke_InvalidNumber : cl0 K "InvalidNumber" = some (He.ga K "InvalidNumber", (["given"] : List Str)) := clE_InvalidNumber
  have er_InvalidNumber : ErrC K (He.ga K "InvalidNumber") ["given"] := err_of (ex_0 Z.says)
  have xg_InvalidNumber := excg_of PySem.F.excBase_ValueError PySem.F.store_ValueError (ex_1 Z.says)
  obtain ⟨mvb_is_integer_1_low_high, b_is_integer_1_low_high⟩ := F_is_integer.kbinds0 1 ["low", "high"] [] (ps := ["value", "low", "high"]) (fun as _ bs => as ++ bs) (by decide) (fun _ h => by cases h) (fun a _ b => a.append b) fun _ _ _ _ _ _ us mv ws h1 h0 h2 => match us, mv, ws, h1, h0, h2 with | [_], [], [_, _], _, _, _ => rfl
  have b_InvalidNumber_init : Binds K fd_InvalidNumber_init ["self", "given"] [] := F_InvalidNumber_init.bindsN fun _ _ _ _ _ _ us hl => match us, hl with | [_, _], _ => rfl
  have sc := sc_check_number
  refine okP F sc rfl rfl (F := b_check_number) fun cdv A outer s H E hg hr tk hp => ?_
  exact ⟨_, (s_one (s_if (d_not (d_tst (d_callK (ks := ["low", "high"]) (gD := (fun as bs => as ++ bs)) G_is_integer hg (hr.mono (by decide)) m_is_integer F_is_integer.kp b_is_integer_1_low_high (fun _ _ _ _ _ a b => a.append b) (d_cons (d_var 0) d_nil) (k_cons (d_var 1) (k_cons (d_var 2) k_nil)))))
    (s_one (s_raise ke_InvalidNumber (by decide) (by decide) xg_InvalidNumber me_InvalidNumber_init.at_ (fn_type me_InvalidNumber_init.fn) G_InvalidNumber_init hg (hr.mono (by decide)) b_InvalidNumber_init mg_InvalidNumber (d_cons (d_var 0) d_nil)))
    s_nil))⟩
/-! _law_number -/
def b__law_number : S → M Out := (sSeq (sSet 1 (dCallI 0 2 f__law_draw (aCons (dC (.int 4)) aNil)))
    (sSeq (sIf (dTst (dBin eqD (dVar 1) (dC (.int 0))))
    (sRet (dCallI 0 2 f__law_draw (aCons (dC (.int 100)) aNil)))
    sNil)
    (sSeq (sIf (dTst (dBin eqD (dVar 1) (dC (.int 1))))
    (sRet (dBin addI (dBin mulI (dCallI 0 2 f__law_draw (aCons (dBin powI (dC (.int 10)) (dC (.int 30))) aNil)) (dBin powI (dC (.int 10)) (dC (.int 30)))) (dCallI 0 2 f__law_draw (aCons (dBin powI (dC (.int 10)) (dC (.int 30))) aNil))))
    sNil)
    (sSeq (sSet 2 (dC (.int 1)))
    (sSeq (sFor (iR1 (aCons (dCallI 0 2 f__law_draw (aCons (dC (.int 120)) aNil)) aNil)) (gNm 3)
    (sSet 2 (dBin addI (dBin mulI (dC (.int 3)) (dVar 2)) (dIf (dTst (dBin eqD (dVar 1) (dC (.int 3)))) (dCallI 0 2 f__law_draw (aCons (dC (.int 2)) aNil)) (dC (.int 0))))))
    (sRet (dCall max2N (aCons (dC (.int 0)) (aCons (dBin subI (dBin addI (dVar 2) (dCallI 0 2 f__law_draw (aCons (dC (.int 3)) aNil))) (dC (.int 1))) aNil)))))))))
def f__law_number : D → List D → M (D × D) := runI 4 b__law_number
theorem sc__law_number : FnScope ["_law_stream_here", "_law_way", "_law_found", "_law_turn"] ["_law_stream_here"] (defScope (top 14)) := ⟨rfl, rfl, rfl, by decide +kernel, rfl, by decide +kernel, by decide +kernel⟩
abbrev D__law_number (K : PySem.W.Frag) (fd : FuncData) : Prop := FunD K "_law_number" "_law_number" (defArgs (top 14)) (defBody (top 14)) (defScope (top 14)) [] [] (He.ga K "_law_number") fd
theorem ok__law_number {P : Program} {w : World} {K : PySem.W.Frag} {mg : Str → Option Value} {base : Heap} (Z : Ctx K mg) {fd : FuncData} (F : D__law_number K fd) : FnG P w K mg base (L2.CX P w) 3 (He.ga K "_law_number") fd ["_law_stream_here"] (spI K (cl0 K) 1 f__law_number) := by
  have fr_range : mg "range" = none := Z.fre "range" (by decide)
  have fr_max : mg "max" = none := Z.fre "max" (by decide)
  obtain ⟨fd__law_draw, F__law_draw⟩ : ∃ fd, D__law_draw K fd := Z.says.def_ 7 (d := (dd (.fn "_law_draw") "_law_draw" "_law_draw" (top 13) [] [])) rfl
  have G__law_draw : FnG P w K mg base (L2.CX P w) 2 _ fd__law_draw ["_law_stream_here", "_law_top"] _ := ok__law_draw Z F__law_draw
  have m__law_draw : mg "_law_draw" = some (.ref (He.ga K "_law_draw")) := Z.glo "_law_draw" (by decide)
  have b__law_draw : Binds K fd__law_draw ["_law_stream_here", "_law_top"] [] := F__law_draw.bindsN fun _ _ _ _ _ _ us hl => match us, hl with | [_, _], _ => rfl
  have sc := sc__law_number
  refine okI F sc rfl rfl (by decide) (F := b__law_number) fun cdv A outer s H E hg hr tk hp => ?_
  exact ⟨_, (s_cons (s_set 1 sc.nd (d_callI 0 G__law_draw hg (hr.mono (by decide)) m__law_draw F__law_draw.kp b__law_draw (d_cons d_int d_nil)))
    (s_cons (s_if (d_tcmp (k_eqD (u64 hr)) (d_var 1) d_int)
    (s_one (s_ret (d_callI 0 G__law_draw hg (hr.mono (by decide)) m__law_draw F__law_draw.kp b__law_draw (d_cons d_int d_nil))))
    s_nil)
    (s_cons (s_if (d_tcmp (k_eqD (u64 hr)) (d_var 1) d_int)
    (s_one (s_ret (d_op k_add (d_op k_mul (d_callI 0 G__law_draw hg (hr.mono (by decide)) m__law_draw F__law_draw.kp b__law_draw (d_cons (d_op k_pow d_int d_int) d_nil)) (d_op k_pow d_int d_int)) (d_callI 0 G__law_draw hg (hr.mono (by decide)) m__law_draw F__law_draw.kp b__law_draw (d_cons (d_op k_pow d_int d_int) d_nil)))))
    s_nil)
    (s_cons (s_set 2 sc.nd d_int)
    (s_cons (s_for hp (w_range1 fr_range (d_cons (d_callI 0 G__law_draw hg (hr.mono (by decide)) m__law_draw F__law_draw.kp b__law_draw (d_cons d_int d_nil)) d_nil)) (g_name 3 sc.nd)
    (s_one (s_set 2 sc.nd (d_op k_add (d_op k_mul d_int (d_var 2)) (d_ifx (d_tcmp (k_eqD (u64 hr)) (d_var 1) d_int) (d_callI 0 G__law_draw hg (hr.mono (by decide)) m__law_draw F__law_draw.kp b__law_draw (d_cons d_int d_nil)) d_int)))))
    (s_one (s_ret (d_callB (c_max2 rfl) fr_max rfl (d_cons d_int (d_cons (d_op k_sub (d_op k_add (d_var 2) (d_callI 0 G__law_draw hg (hr.mono (by decide)) m__law_draw F__law_draw.kp b__law_draw (d_cons d_int d_nil))) d_int) d_nil))))))))))⟩
/-! Ternary_init -/
def b_Ternary_init : S → M Out := (sSeq (sExpr (dCallU 3 f_check_number [.int 0, .non] (aCons (dVar 1) aNil)))
    (sSeq (sFldPut 0 "Ternary" 0 (dVar 1))
    (sFldPut 0 "Ternary" 1 (dTupZ (dCallU 2 f_digits_in [] (aCons (dVar 1) (aCons (dC (.int 3)) aNil)))))))
def f_Ternary_init : D → List D → M (D × D) := runI 2 b_Ternary_init
theorem sc_Ternary_init : FnScope ["self", "number"] ["self", "number"] (defScope (mth 9 1)) := ⟨rfl, rfl, rfl, by decide +kernel, rfl, by decide +kernel, by decide +kernel⟩
abbrev D_Ternary_init (K : PySem.W.Frag) (fd : FuncData) : Prop := FunD K "__init__" "Ternary.__init__" (defArgs (mth 9 1)) (defBody (mth 9 1)) (defScope (mth 9 1)) [] [] (He.ma K (He.ga K "Ternary") "__init__") fd
theorem ok_Ternary_init {P : Program} {w : World} {K : PySem.W.Frag} {mg : Str → Option Value} {base : Heap} (Z : Ctx K mg) {fd : FuncData} (F : D_Ternary_init K fd) : FnG P w K mg base (L2.CX P w) 4 (He.ma K (He.ga K "Ternary") "__init__") fd ["self", "number"] (spI K (cl0 K) 2 f_Ternary_init) := by
  have fr_tuple : mg "tuple" = none := Z.fre "tuple" (by decide)
  obtain ⟨fd_check_number, F_check_number⟩ : ∃ fd, D_check_number K fd := Z.says.def_ 1 (d := (dd (.fn "check_number") "check_number" "check_number" (top 5) [.int 0, .non] [])) rfl
  have G_check_number : FnG P w K mg base (L2.CX P w) 3 _ fd_check_number ["value", "low", "high"] _ := ok_check_number Z F_check_number
  have m_check_number : mg "check_number" = some (.ref (He.ga K "check_number")) := Z.glo "check_number" (by decide)
  obtain ⟨fd_digits_in, F_digits_in⟩ : ∃ fd, D_digits_in K fd := Z.says.def_ 2 (d := (dd (.fn "digits_in") "digits_in" "digits_in" (top 6) [] [])) rfl
  have G_digits_in : FnG P w K mg base (L2.CX P w) 1 _ fd_digits_in ["number", "radix"] _ := ok_digits_in Z F_digits_in
  have m_digits_in : mg "digits_in" = some (.ref (He.ga K "digits_in")) := Z.glo "digits_in" (by decide)
  have kc_Ternary := cls_Ternary (K := K) Z.says
  obtain ⟨db_check_number_1, vb_check_number_1, b_check_number_1⟩ : ∃ ds, Vals [(V.int 0), V.non] ds ∧ Binds K fd_check_number ["value", "low", "high"] ds := F_check_number.binds1 1 0 (by decide) rfl fun _ _ _ _ _ _ _ us ks h1 h2 => match us, ks, h1, h2 with | [_], [_, _], _, _ => ⟨_, rfl, rfl⟩
  have b_digits_in : Binds K fd_digits_in ["number", "radix"] [] := F_digits_in.bindsN fun _ _ _ _ _ _ us hl => match us, hl with | [_, _], _ => rfl
  have sc := sc_Ternary_init
  refine okI F sc rfl rfl (by decide) (F := b_Ternary_init) fun cdv A outer s H E hg hr tk hp => ?_
  exact ⟨_, (s_cons (s_expr (d_call G_check_number hg (hr.mono (by decide)) m_check_number F_check_number.kp b_check_number_1 vb_check_number_1 (fun _ => .cons (.int 0) (.cons .non (.nil))) (d_cons (d_var 1) d_nil)))
    (s_cons (s_fldPut (j := 0) 0 kc_Ternary (d_var 1))
    (s_one (s_fldPut (j := 1) 0 kc_Ternary (d_tupZ fr_tuple (d_call G_digits_in hg (hr.mono (by decide)) m_digits_in F_digits_in.kp b_digits_in .nil (fun _ => .nil) (d_cons (d_var 1) (d_cons d_int d_nil))))))))⟩
/-! Ternary_from_digits -/
def b_Ternary_from_digits : S → M Out := (sSeq (sFor (iTp (dVar 1)) (gNm 2)
    (sExpr (dCallU 3 f_check_number [] (aCons (dVar 2) (aCons (dC (.int 0)) (aCons (dC (.int 2)) aNil))))))
    (sRet (dMakeV 0 "Ternary" 2 f_Ternary_init [] (aCons (dCallU 2 f_number_of [] (aCons (dVar 1) (aCons (dC (.int 3)) aNil))) aNil))))
def f_Ternary_from_digits : FnD := runP 3 b_Ternary_from_digits
theorem sc_Ternary_from_digits : FnScope ["cls", "digits", "digit"] ["cls", "digits"] (defScope (mth 9 3)) := ⟨rfl, rfl, rfl, by decide +kernel, rfl, by decide +kernel, by decide +kernel⟩
abbrev D_Ternary_from_digits (K : PySem.W.Frag) (fd : FuncData) : Prop := FunD K "from_digits" "Ternary.from_digits" (defArgs (mth 9 3)) (defBody (mth 9 3)) (defScope (mth 9 3)) [] [] (At.adr K (.clsm "Ternary" "from_digits")) fd
theorem ok_Ternary_from_digits {P : Program} {w : World} {K : PySem.W.Frag} {mg : Str → Option Value} {base : Heap} (Z : Ctx K mg) {fd : FuncData} (F : D_Ternary_from_digits K fd) : FnV P w K mg base 6 (At.adr K (.clsm "Ternary" "from_digits")) (spW K (cl0 K) f_Ternary_from_digits) := by
  obtain ⟨fd_check_number, F_check_number⟩ : ∃ fd, D_check_number K fd := Z.says.def_ 1 (d := (dd (.fn "check_number") "check_number" "check_number" (top 5) [.int 0, .non] [])) rfl
  have G_check_number : FnG P w K mg base (L2.CX P w) 3 _ fd_check_number ["value", "low", "high"] _ := ok_check_number Z F_check_number
  have m_check_number : mg "check_number" = some (.ref (He.ga K "check_number")) := Z.glo "check_number" (by decide)
  obtain ⟨fd_Ternary_init, F_Ternary_init⟩ : ∃ fd, D_Ternary_init K fd := Z.says.def_ 20 (d := (dd (.meth "Ternary" "__init__") "__init__" "Ternary.__init__" (mth 9 1) [] [])) rfl
  have G_Ternary_init : FnG P w K mg base (L2.CX P w) 4 _ fd_Ternary_init ["self", "number"] _ := ok_Ternary_init Z F_Ternary_init
  have me_Ternary_init := He.meth_ok (x := "Ternary") (m := "__init__") (Z.says.at_ 20 (d := (dd (.meth "Ternary" "__init__") "__init__" "Ternary.__init__" (mth 9 1) [] [])) rfl)
  obtain ⟨fd_number_of, F_number_of⟩ : ∃ fd, D_number_of K fd := Z.says.def_ 3 (d := (dd (.fn "number_of") "number_of" "number_of" (top 7) [] [])) rfl
  have G_number_of : FnG P w K mg base (L2.CX P w) 1 _ fd_number_of ["digits", "radix"] _ := ok_number_of Z F_number_of
  have m_number_of : mg "number_of" = some (.ref (He.ga K "number_of")) := Z.glo "number_of" (by decide)
  have kc_Ternary := cls_Ternary (K := K) Z.says
  have mk_Ternary := He.mkr_ok (x := "Ternary") (Z.says.facts (by simp [fa, clsfacts]))
  have mc_Ternary : mg "Ternary" = some (.ref (He.ga K "Ternary")) := Z.glo "Ternary" (by decide)
  obtain ⟨db_check_number_3, vb_check_number_3, b_check_number_3⟩ : ∃ ds, Vals [] ds ∧ Binds K fd_check_number ["value", "low", "high"] ds := F_check_number.binds1 3 2 (by decide) rfl fun _ _ _ _ _ _ _ us ks h1 h2 => match us, ks, h1, h2 with | [_, _, _], [_, _], _, _ => ⟨_, rfl, rfl⟩
  have b_Ternary_init : Binds K fd_Ternary_init ["self", "number"] [] := F_Ternary_init.bindsN fun _ _ _ _ _ _ us hl => match us, hl with | [_, _], _ => rfl
  have b_number_of : Binds K fd_number_of ["digits", "radix"] [] := F_number_of.bindsN fun _ _ _ _ _ _ us hl => match us, hl with | [_, _], _ => rfl
  have sc := sc_Ternary_from_digits
  refine okW (wx := noW) F sc rfl (fun _ _ _ _ _ _ _ rest => match rest with | [] => rfl | _ :: _ => rfl) (F := b_Ternary_from_digits) fun cdv A outer s H E hg hr tk hp => ?_
  exact ⟨_, (s_cons (s_for hp (w_tup (d_var 1)) (g_name 2 sc.nd)
    (s_one (s_expr (d_call G_check_number hg (hr.mono (by decide)) m_check_number F_check_number.kp b_check_number_3 vb_check_number_3 (fun _ => .nil) (d_cons (d_var 2) (d_cons d_int (d_cons d_int d_nil)))))))
    (s_one (s_ret (d_of (f_makeV 0 kc_Ternary mk_Ternary G_Ternary_init hg (hr.mono (by decide)) b_Ternary_init .nil (fun _ => .nil) (d_cons (d_call G_number_of hg (hr.mono (by decide)) m_number_of F_number_of.kp b_number_of .nil (fun _ => .nil) (d_cons (d_var 1) (d_cons d_int d_nil))) d_nil))))))⟩
/-! _law_object_right -/
def b__law_object_right : S → M Out := (sSeq (sSet 1 (dRev (dCallU 2 f__law_digits [] (aCons (dVar 0) (aCons (dC (.int 3)) aNil)))))
    (sSeq (sPar 2 3 (aCons (dMake "Ternary" 2 f_Ternary_init [] (aCons (dVar 0) aNil)) (aCons (dMake "Ternary" 2 f_Ternary_init [] (aCons (dVar 0) aNil)) aNil)))
    (sSeq (sSet 4 (dLst (aCons (dProp "Ternary" f_Ternary_number (dVar 2)) (aCons (dProp "Ternary" f_Ternary_digits (dVar 2)) (aCons (dProp "Ternary" f_Ternary_ones (dVar 2)) (aCons (dProp "Ternary" f_Ternary_is_plain (dVar 2)) aNil))))))
    (sSeq (sIf (dTst (dBin neS (dCall reprN (aCons (dVar 4) aNil)) (dCall reprN (aCons (dLst (aCons (dVar 0) (aCons (dCall tupleN (aCons (dVar 1) aNil)) (aCons (dCnt (dVar 1) (dC (.int 1))) (aCons (dBin ninD (dC (.int 2)) (dVar 1)) aNil))))) aNil))))
    (sRet (dC (.bl false)))
    sNil)
    (sSeq (sSet 5 (dIf (dTst (dBin gtI (dVar 0) (dC (.int 0)))) (dJoin (dC (.str "")) (dComp (iLst (dVar 1)) [6] (gNm 6) tTrue (dCall strN (aCons (dVar 6) aNil)))) (dC (.str "0"))))
    (sSeq (sIf (dOr (dTst (dBin neS (dCall (strO "Ternary" f_Ternary_str) (aCons (dVar 2) aNil)) (dVar 5))) (dOr (dNot (dTst (dBin (ownQ "Ternary" f_Ternary_eq id) (dVar 2) (dVar 3)))) (dTst (dBin (ownQ "Ternary" f_Ternary_eq (!·)) (dVar 2) (dVar 3)))))
    (sRet (dC (.bl false)))
    sNil)
    (sSeq (sIf (dOr (dTst (dBin (ownQ "Ternary" f_Ternary_eq id) (dVar 2) (dMake "Ternary" 2 f_Ternary_init [] (aCons (dBin addI (dVar 0) (dC (.int 1))) aNil)))) (dOr (dTst (dBin (ownVQ "Ternary" f_Ternary_eq) (dVar 2) (dVar 0))) (dOr (dTst (dBin (ownTQ "Ternary" f_Ternary_eq_T) (dVar 2) (dCall tupleN (aCons (dVar 1) aNil)))) (dTst (dBin (ownVQ "Ternary" f_Ternary_eq) (dVar 2) (dVar 5))))))
    (sRet (dC (.bl false)))
    sNil)
    (sRet (dBin (ownQ "Ternary" f_Ternary_eq (!·)) (dMake "Ternary" 2 f_Ternary_init [] (aCons (dBin addI (dVar 0) (dC (.int 1))) aNil)) (dVar 2))))))))))
def f__law_object_right : FnD := runP 7 b__law_object_right
theorem sc__law_object_right : FnScope ["_law_given", "_law_digits_here", "_law_made", "_law_other", "_law_shown", "_law_text", "_law_digit"] ["_law_given"] (defScope (top 16)) := ⟨rfl, rfl, rfl, by decide +kernel, rfl, by decide +kernel, by decide +kernel⟩
abbrev D__law_object_right (K : PySem.W.Frag) (fd : FuncData) : Prop := FunD K "_law_object_right" "_law_object_right" (defArgs (top 16)) (defBody (top 16)) (defScope (top 16)) [] [] (He.ga K "_law_object_right") fd
theorem ok__law_object_right {P : Program} {w : World} {K : PySem.W.Frag} {mg : Str → Option Value} {base : Heap} (Z : Ctx K mg) {fd : FuncData} (F : D__law_object_right K fd) : FnG P w K mg base (L2.CX P w) 6 (He.ga K "_law_object_right") fd ["_law_given"] (spP K (cl0 K) 1 f__law_object_right) := by
  have fr_repr : mg "repr" = none := Z.fre "repr" (by decide)
  have fr_tuple : mg "tuple" = none := Z.fre "tuple" (by decide)
  have fr_str : mg "str" = none := Z.fre "str" (by decide)
  obtain ⟨fd__law_digits, F__law_digits⟩ : ∃ fd, D__law_digits K fd := Z.says.def_ 9 (d := (dd (.fn "_law_digits") "_law_digits" "_law_digits" (top 15) [] [])) rfl
  have G__law_digits : FnG P w K mg base (L2.CX P w) 1 _ fd__law_digits ["_law_given", "_law_radix"] _ := ok__law_digits Z F__law_digits
  have m__law_digits : mg "_law_digits" = some (.ref (He.ga K "_law_digits")) := Z.glo "_law_digits" (by decide)
  obtain ⟨fd_Ternary_init, F_Ternary_init⟩ : ∃ fd, D_Ternary_init K fd := Z.says.def_ 20 (d := (dd (.meth "Ternary" "__init__") "__init__" "Ternary.__init__" (mth 9 1) [] [])) rfl
  have G_Ternary_init : FnG P w K mg base (L2.CX P w) 4 _ fd_Ternary_init ["self", "number"] _ := ok_Ternary_init Z F_Ternary_init
  have me_Ternary_init := He.meth_ok (x := "Ternary") (m := "__init__") (Z.says.at_ 20 (d := (dd (.meth "Ternary" "__init__") "__init__" "Ternary.__init__" (mth 9 1) [] [])) rfl)
  obtain ⟨fd_Ternary_is_plain, F_Ternary_is_plain⟩ : ∃ fd, D_Ternary_is_plain K fd := Z.says.def_ 19 (d := (dd (.prop "Ternary" "is_plain") "is_plain" "Ternary.is_plain" (mth 9 7) [] [])) rfl
  have G_Ternary_is_plain : FnG P w K mg base (L2.CX P w) 2 _ fd_Ternary_is_plain ["self"] _ := ok_Ternary_is_plain Z F_Ternary_is_plain
  have po_Ternary_is_plain := prop_ok (C := "Ternary") (m := "is_plain") (Z.says.at_ 19 (d := (dd (.prop "Ternary" "is_plain") "is_plain" "Ternary.is_plain" (mth 9 7) [] [])) rfl)
  obtain ⟨fd_Ternary_ones, F_Ternary_ones⟩ : ∃ fd, D_Ternary_ones K fd := Z.says.def_ 18 (d := (dd (.prop "Ternary" "ones") "ones" "Ternary.ones" (mth 9 6) [] [])) rfl
  have G_Ternary_ones : FnG P w K mg base (L2.CX P w) 1 _ fd_Ternary_ones ["self"] _ := ok_Ternary_ones Z F_Ternary_ones
  have po_Ternary_ones := prop_ok (C := "Ternary") (m := "ones") (Z.says.at_ 18 (d := (dd (.prop "Ternary" "ones") "ones" "Ternary.ones" (mth 9 6) [] [])) rfl)
  obtain ⟨fd_Ternary_digits, F_Ternary_digits⟩ : ∃ fd, D_Ternary_digits K fd := Z.says.def_ 17 (d := (dd (.prop "Ternary" "digits") "digits" "Ternary.digits" (mth 9 5) [] [])) rfl
  have G_Ternary_digits : FnG P w K mg base (L2.CX P w) 1 _ fd_Ternary_digits ["self"] _ := ok_Ternary_digits Z F_Ternary_digits
  have po_Ternary_digits := prop_ok (C := "Ternary") (m := "digits") (Z.says.at_ 17 (d := (dd (.prop "Ternary" "digits") "digits" "Ternary.digits" (mth 9 5) [] [])) rfl)
  obtain ⟨fd_Ternary_number, F_Ternary_number⟩ : ∃ fd, D_Ternary_number K fd := Z.says.def_ 16 (d := (dd (.prop "Ternary" "number") "number" "Ternary.number" (mth 9 4) [] [])) rfl
  have G_Ternary_number : FnG P w K mg base (L2.CX P w) 1 _ fd_Ternary_number ["self"] _ := ok_Ternary_number Z F_Ternary_number
  have po_Ternary_number := prop_ok (C := "Ternary") (m := "number") (Z.says.at_ 16 (d := (dd (.prop "Ternary" "number") "number" "Ternary.number" (mth 9 4) [] [])) rfl)
  obtain ⟨fd_Ternary_eq, F_Ternary_eq⟩ : ∃ fd, D_Ternary_eq K fd := Z.says.def_ 21 (d := (dd (.meth "Ternary" "__eq__") "__eq__" "Ternary.__eq__" (mth 9 8) [] [])) rfl
  have G_Ternary_eq : FnG P w K mg base (L2.CX P w) 1 _ fd_Ternary_eq ["self", "other"] _ := ok_Ternary_eq Z F_Ternary_eq
  have me_Ternary_eq := He.meth_ok (x := "Ternary") (m := "__eq__") (Z.says.at_ 21 (d := (dd (.meth "Ternary" "__eq__") "__eq__" "Ternary.__eq__" (mth 9 8) [] [])) rfl)
  obtain ⟨fd_Ternary_str, F_Ternary_str⟩ : ∃ fd, D_Ternary_str K fd := Z.says.def_ 23 (d := (dd (.meth "Ternary" "__str__") "__str__" "Ternary.__str__" (mth 9 9) [] [])) rfl
  have G_Ternary_str : FnG P w K mg base (L2.CX P w) 1 _ fd_Ternary_str ["self"] _ := ok_Ternary_str Z F_Ternary_str
  have me_Ternary_str := He.meth_ok (x := "Ternary") (m := "__str__") (Z.says.at_ 23 (d := (dd (.meth "Ternary" "__str__") "__str__" "Ternary.__str__" (mth 9 9) [] [])) rfl)
  obtain ⟨fd_Ternary_eq_T, F_Ternary_eq_T⟩ : ∃ fd, D_Ternary_eq_T K fd := Z.says.def_ 22 (d := (dd (.meth "Ternary" "__eq__") "__eq__" "Ternary.__eq__" (mth 9 8) [] [])) rfl
  have G_Ternary_eq_T : FnG P w K mg base (L2.CX P w) 1 _ fd_Ternary_eq_T ["self", "other"] _ := ok_Ternary_eq_T Z F_Ternary_eq_T
  have me_Ternary_eq_T := He.meth_ok (x := "Ternary") (m := "__eq__") (Z.says.at_ 22 (d := (dd (.meth "Ternary" "__eq__") "__eq__" "Ternary.__eq__" (mth 9 8) [] [])) rfl)
  have kc_Ternary := cls_Ternary (K := K) Z.says
  have mk_Ternary := He.mkr_ok (x := "Ternary") (Z.says.facts (by simp [fa, clsfacts]))
  have mc_Ternary : mg "Ternary" = some (.ref (He.ga K "Ternary")) := Z.glo "Ternary" (by decide)
  have b__law_digits : Binds K fd__law_digits ["_law_given", "_law_radix"] [] := F__law_digits.bindsN fun _ _ _ _ _ _ us hl => match us, hl with | [_, _], _ => rfl
  have b_Ternary_init_1_number := kbN F_Ternary_init 1 ["number"] (ps := ["self", "number"]) (fun as bs => as ++ bs) (fun a b => a.append b) fun _ _ _ _ _ _ us ws h1 h2 => match us, ws, h1, h2 with | [_], [_], _, _ => rfl
  have b_Ternary_init : Binds K fd_Ternary_init ["self", "number"] [] := F_Ternary_init.bindsN fun _ _ _ _ _ _ us hl => match us, hl with | [_, _], _ => rfl
  have b_Ternary_is_plain : Binds K fd_Ternary_is_plain ["self"] [] := F_Ternary_is_plain.bindsN fun _ _ _ _ _ _ us hl => match us, hl with | [_], _ => rfl
  have b_Ternary_ones : Binds K fd_Ternary_ones ["self"] [] := F_Ternary_ones.bindsN fun _ _ _ _ _ _ us hl => match us, hl with | [_], _ => rfl
  have b_Ternary_digits : Binds K fd_Ternary_digits ["self"] [] := F_Ternary_digits.bindsN fun _ _ _ _ _ _ us hl => match us, hl with | [_], _ => rfl
  have b_Ternary_number : Binds K fd_Ternary_number ["self"] [] := F_Ternary_number.bindsN fun _ _ _ _ _ _ us hl => match us, hl with | [_], _ => rfl
  have b_Ternary_eq : Binds K fd_Ternary_eq ["self", "other"] [] := F_Ternary_eq.bindsN fun _ _ _ _ _ _ us hl => match us, hl with | [_, _], _ => rfl
  have b_Ternary_str : Binds K fd_Ternary_str ["self"] [] := F_Ternary_str.bindsN fun _ _ _ _ _ _ us hl => match us, hl with | [_], _ => rfl
  have b_Ternary_eq_T : Binds K fd_Ternary_eq_T ["self", "other"] [] := F_Ternary_eq_T.bindsN fun _ _ _ _ _ _ us hl => match us, hl with | [_, _], _ => rfl
  have sc := sc__law_object_right
  refine okP F sc rfl rfl (F := b__law_object_right) fun cdv A outer s H E hg hr tk hp => ?_
  exact ⟨_, (s_cons (s_set 1 sc.nd (d_of (f_rev (d_call G__law_digits hg (hr.mono (by decide)) m__law_digits F__law_digits.kp b__law_digits .nil (fun _ => .nil) (d_cons (d_var 0) (d_cons d_int d_nil))))))
    (s_cons (s_par (i := 2) (j := 3) rfl sc.nd (d_cons (d_of (f_make kc_Ternary mk_Ternary G_Ternary_init hg (hr.mono (by decide)) mc_Ternary b_Ternary_init .nil (fun _ => .nil) (d_cons (d_var 0) d_nil))) (d_cons (d_of (f_makeK (ks := ["number"]) kc_Ternary mk_Ternary G_Ternary_init hg (hr.mono (by decide)) mc_Ternary b_Ternary_init_1_number (k_cons (d_var 0) k_nil))) d_nil)))
    (s_cons (s_set 4 sc.nd (d_of (f_lst (d_cons (d_prop kc_Ternary po_Ternary_number G_Ternary_number hg (hr.mono (by decide)) b_Ternary_number (d_var 2)) (d_cons (d_prop kc_Ternary po_Ternary_digits G_Ternary_digits hg (hr.mono (by decide)) b_Ternary_digits (d_var 2)) (d_cons (d_prop kc_Ternary po_Ternary_ones G_Ternary_ones hg (hr.mono (by decide)) b_Ternary_ones (d_var 2)) (d_cons (d_prop kc_Ternary po_Ternary_is_plain G_Ternary_is_plain hg (hr.mono (by decide)) b_Ternary_is_plain (d_var 2)) d_nil)))))))
    (s_cons (s_if (d_tcmp k_neS (d_callB (c_repr hg (u64 hr)) fr_repr rfl (d_cons (d_var 4) d_nil)) (d_callB (c_repr hg (u64 hr)) fr_repr rfl (d_cons (d_of (f_lst (d_cons (d_var 0) (d_cons (d_callT c_tuple fr_tuple rfl (d_cons (d_var 1) d_nil)) (d_cons (d_count (d_var 1) d_int) (d_cons (d_cmp (k_ninD (u65 hr)) d_int (d_var 1)) d_nil)))))) d_nil)))
    (s_one (s_ret d_bl))
    s_nil)
    (s_cons (s_set 5 sc.nd (d_ifx (d_tcmp k_gt (d_var 0) d_int) (d_join d_str (d_of (f_comp (own := [("_law_digit", 6)]) rfl sc.nd (w_list (d_var 1)) (blkOk_by (N := ["_law_given", "_law_digits_here", "_law_made", "_law_other", "_law_shown", "_law_text", "_law_digit"]) (sc := defScope (top 16)) (by decide +kernel)) (fun _ _ _ _ _ => (g_name 6 sc.nd)) (fun _ _ _ _ _ => t_nil) (fun _ _ _ _ _ => (d_callT c_str fr_str rfl (d_cons (d_var 6) d_nil))) (by decide)))) d_str))
    (s_cons (s_if (d_or (d_tcmp k_neS (d_callT (c_strO kc_Ternary me_Ternary_str G_Ternary_str hg (hr.mono (by decide)) b_Ternary_str) fr_str rfl (d_cons (d_var 2) d_nil)) (d_var 5)) (d_or (d_not (d_tcmp (k_eqO kc_Ternary me_Ternary_eq G_Ternary_eq hg (hr.mono (by decide)) b_Ternary_eq) (d_var 2) (d_var 3))) (d_or1 (d_tcmp (k_neO kc_Ternary me_Ternary_eq (ex_29 Z.says) G_Ternary_eq hg (hr.mono (by decide)) b_Ternary_eq) (d_var 2) (d_var 3))))).pt
    (s_one (s_ret d_bl))
    s_nil)
    (s_cons (s_if (d_or (d_tcmp (k_eqO kc_Ternary me_Ternary_eq G_Ternary_eq hg (hr.mono (by decide)) b_Ternary_eq) (d_var 2) (d_of (f_make kc_Ternary mk_Ternary G_Ternary_init hg (hr.mono (by decide)) mc_Ternary b_Ternary_init .nil (fun _ => .nil) (d_cons (d_op k_add (d_var 0) d_int) d_nil)))) (d_or (d_tcmp (k_eqOV kc_Ternary me_Ternary_eq G_Ternary_eq hg (hr.mono (by decide)) b_Ternary_eq) (d_var 2) (d_var 0)) (d_or (d_tcmp (k_eqOT kc_Ternary me_Ternary_eq_T G_Ternary_eq_T hg (hr.mono (by decide)) b_Ternary_eq_T) (d_var 2) (d_callT c_tuple fr_tuple rfl (d_cons (d_var 1) d_nil))) (d_or1 (d_tcmp (k_eqOV kc_Ternary me_Ternary_eq G_Ternary_eq hg (hr.mono (by decide)) b_Ternary_eq) (d_var 2) (d_var 5)))))).pt
    (s_one (s_ret d_bl))
    s_nil)
    (s_one (s_ret (d_cmp (k_neO kc_Ternary me_Ternary_eq (ex_29 Z.says) G_Ternary_eq hg (hr.mono (by decide)) b_Ternary_eq) (d_of (f_make kc_Ternary mk_Ternary G_Ternary_init hg (hr.mono (by decide)) mc_Ternary b_Ternary_init .nil (fun _ => .nil) (d_cons (d_op k_add (d_var 0) d_int) d_nil))) (d_var 2)))))))))))⟩
/-! _law_last_right -/
def b__law_last_right : S → M Out := (sSeq (sSet 1 (dCutL (dBin catL (dCallU 2 f__law_digits [] (aCons (dVar 0) (aCons (dC (.int 3)) aNil))) (dLst (aCons (dC (.int 0)) (aCons (dC (.int 0)) (aCons (dC (.int 0)) aNil))))) partNo (partAt (dC (.int 3)))))
    (sSeq (sSet 2 (dCMethV "Ternary" f_Ternary_from_digits (aCons (dBin ixL (dVar 1) (dC (.int 2))) (aCons (dBin ixL (dVar 1) (dC (.int 1))) (aCons (dBin ixL (dVar 1) (dC (.int 0))) aNil)))))
    (sSeq (sSet 3 (dCMethV "Ternary" f_Ternary_from_digits (aCons (dC (.int 0)) (aCons (dC (.int 0)) (aCons (dBin ixL (dVar 1) (dC (.int 2))) (aCons (dBin ixL (dVar 1) (dC (.int 1))) (aCons (dBin ixL (dVar 1) (dC (.int 0))) aNil)))))))
    (sSeq (sSet 4 (dMake "Ternary" 2 f_Ternary_init [] (aCons (dBin modI (dVar 0) (dC (.int 27))) aNil)))
    (sSeq (sIf (dOr (dTst (dBin (ownQ "Ternary" f_Ternary_eq (!·)) (dVar 2) (dVar 4))) (dOr (dTst (dBin (ownQ "Ternary" f_Ternary_eq (!·)) (dVar 3) (dVar 4))) (dOr (dTst (dBin neD (dProp "Ternary" f_Ternary_digits (dVar 2)) (dProp "Ternary" f_Ternary_digits (dVar 4)))) (dTst (dBin neS (dCall (strO "Ternary" f_Ternary_str) (aCons (dVar 3) aNil)) (dCall (strO "Ternary" f_Ternary_str) (aCons (dVar 4) aNil)))))))
    (sRet (dC (.bl false)))
    sNil)
    (sSeq (sSet 5 (dC (.int 0)))
    (sSeq (sFor (iTp (dTup (aCons (dC (.int 1)) (aCons (dBin ixL (dVar 1) (dC (.int 2))) (aCons (dC (.int 0)) (aCons (dBin ixL (dVar 1) (dC (.int 1))) (aCons (dC (.int 2)) (aCons (dBin ixL (dVar 1) (dC (.int 0))) (aCons (dC (.int 1)) (aCons (dC (.int 2)) (aCons (dC (.int 0)) aNil))))))))))) (gNm 6)
    (sSet 5 (dBin addI (dBin mulI (dC (.int 3)) (dVar 5)) (dVar 6))))
    (sSeq (sIf (dTst (dBin neD (dProp "Ternary" f_Ternary_number (dCMethV "Ternary" f_Ternary_from_digits (aCons (dC (.int 1)) (aCons (dBin ixL (dVar 1) (dC (.int 2))) (aCons (dC (.int 0)) (aCons (dBin ixL (dVar 1) (dC (.int 1))) (aCons (dC (.int 2)) (aCons (dBin ixL (dVar 1) (dC (.int 0))) (aCons (dC (.int 1)) (aCons (dC (.int 2)) (aCons (dC (.int 0)) aNil))))))))))) (dVar 5)))
    (sRet (dC (.bl false)))
    sNil)
    (sRet (vAnd (dBin eqD (dProp "Ternary" f_Ternary_number (dCMethV "Ternary" f_Ternary_from_digits (aCons (dBin ixL (dVar 1) (dC (.int 0))) aNil))) (dBin ixL (dVar 1) (dC (.int 0)))) (dBin (ownQ "Ternary" f_Ternary_eq id) (dCMethV "Ternary" f_Ternary_from_digits aNil) (dMake "Ternary" 2 f_Ternary_init [] (aCons (dC (.int 0)) aNil)))))))))))))
def f__law_last_right : FnD := runP 7 b__law_last_right
theorem sc__law_last_right : FnScope ["_law_given", "_law_some", "_law_made", "_law_longer", "_law_due", "_law_value_of", "_law_digit"] ["_law_given"] (defScope (top 17)) := ⟨rfl, rfl, rfl, by decide +kernel, rfl, by decide +kernel, by decide +kernel⟩
abbrev D__law_last_right (K : PySem.W.Frag) (fd : FuncData) : Prop := FunD K "_law_last_right" "_law_last_right" (defArgs (top 17)) (defBody (top 17)) (defScope (top 17)) [] [] (He.ga K "_law_last_right") fd
theorem ok__law_last_right {P : Program} {w : World} {K : PySem.W.Frag} {mg : Str → Option Value} {base : Heap} (Z : Ctx K mg) {fd : FuncData} (F : D__law_last_right K fd) : FnG P w K mg base (L2.CX P w) 8 (He.ga K "_law_last_right") fd ["_law_given"] (spP K (cl0 K) 1 f__law_last_right) := by
  have fr_str : mg "str" = none := Z.fre "str" (by decide)
  obtain ⟨fd__law_digits, F__law_digits⟩ : ∃ fd, D__law_digits K fd := Z.says.def_ 9 (d := (dd (.fn "_law_digits") "_law_digits" "_law_digits" (top 15) [] [])) rfl
  have G__law_digits : FnG P w K mg base (L2.CX P w) 1 _ fd__law_digits ["_law_given", "_law_radix"] _ := ok__law_digits Z F__law_digits
  have m__law_digits : mg "_law_digits" = some (.ref (He.ga K "_law_digits")) := Z.glo "_law_digits" (by decide)
  obtain ⟨fd_Ternary_from_digits, F_Ternary_from_digits⟩ : ∃ fd, D_Ternary_from_digits K fd := Z.says.def_ 24 (d := (dd (.clsm "Ternary" "from_digits") "from_digits" "Ternary.from_digits" (mth 9 3) [] [])) rfl
  have G_Ternary_from_digits : FnV P w K mg base 6 _ _ := ok_Ternary_from_digits Z F_Ternary_from_digits
  obtain ⟨fd_Ternary_init, F_Ternary_init⟩ : ∃ fd, D_Ternary_init K fd := Z.says.def_ 20 (d := (dd (.meth "Ternary" "__init__") "__init__" "Ternary.__init__" (mth 9 1) [] [])) rfl
  have G_Ternary_init : FnG P w K mg base (L2.CX P w) 4 _ fd_Ternary_init ["self", "number"] _ := ok_Ternary_init Z F_Ternary_init
  have me_Ternary_init := He.meth_ok (x := "Ternary") (m := "__init__") (Z.says.at_ 20 (d := (dd (.meth "Ternary" "__init__") "__init__" "Ternary.__init__" (mth 9 1) [] [])) rfl)
  obtain ⟨fd_Ternary_str, F_Ternary_str⟩ : ∃ fd, D_Ternary_str K fd := Z.says.def_ 23 (d := (dd (.meth "Ternary" "__str__") "__str__" "Ternary.__str__" (mth 9 9) [] [])) rfl
  have G_Ternary_str : FnG P w K mg base (L2.CX P w) 1 _ fd_Ternary_str ["self"] _ := ok_Ternary_str Z F_Ternary_str
  have me_Ternary_str := He.meth_ok (x := "Ternary") (m := "__str__") (Z.says.at_ 23 (d := (dd (.meth "Ternary" "__str__") "__str__" "Ternary.__str__" (mth 9 9) [] [])) rfl)
  obtain ⟨fd_Ternary_digits, F_Ternary_digits⟩ : ∃ fd, D_Ternary_digits K fd := Z.says.def_ 17 (d := (dd (.prop "Ternary" "digits") "digits" "Ternary.digits" (mth 9 5) [] [])) rfl
  have G_Ternary_digits : FnG P w K mg base (L2.CX P w) 1 _ fd_Ternary_digits ["self"] _ := ok_Ternary_digits Z F_Ternary_digits
  have po_Ternary_digits := prop_ok (C := "Ternary") (m := "digits") (Z.says.at_ 17 (d := (dd (.prop "Ternary" "digits") "digits" "Ternary.digits" (mth 9 5) [] [])) rfl)
  obtain ⟨fd_Ternary_eq, F_Ternary_eq⟩ : ∃ fd, D_Ternary_eq K fd := Z.says.def_ 21 (d := (dd (.meth "Ternary" "__eq__") "__eq__" "Ternary.__eq__" (mth 9 8) [] [])) rfl
  have G_Ternary_eq : FnG P w K mg base (L2.CX P w) 1 _ fd_Ternary_eq ["self", "other"] _ := ok_Ternary_eq Z F_Ternary_eq
  have me_Ternary_eq := He.meth_ok (x := "Ternary") (m := "__eq__") (Z.says.at_ 21 (d := (dd (.meth "Ternary" "__eq__") "__eq__" "Ternary.__eq__" (mth 9 8) [] [])) rfl)
  obtain ⟨fd_Ternary_number, F_Ternary_number⟩ : ∃ fd, D_Ternary_number K fd := Z.says.def_ 16 (d := (dd (.prop "Ternary" "number") "number" "Ternary.number" (mth 9 4) [] [])) rfl
  have G_Ternary_number : FnG P w K mg base (L2.CX P w) 1 _ fd_Ternary_number ["self"] _ := ok_Ternary_number Z F_Ternary_number
  have po_Ternary_number := prop_ok (C := "Ternary") (m := "number") (Z.says.at_ 16 (d := (dd (.prop "Ternary" "number") "number" "Ternary.number" (mth 9 4) [] [])) rfl)
  have kc_Ternary := cls_Ternary (K := K) Z.says
  have mk_Ternary := He.mkr_ok (x := "Ternary") (Z.says.facts (by simp [fa, clsfacts]))
  have mc_Ternary : mg "Ternary" = some (.ref (He.ga K "Ternary")) := Z.glo "Ternary" (by decide)
  have mg_Ternary : mg "Ternary" = some (.ref (He.ga K "Ternary")) := Z.glo "Ternary" (by decide)
  obtain ⟨cr_Ternary_from_digits, cm_Ternary_from_digits⟩ := cm_of (ex_30 Z.says) (Z.says.at_ 24 (d := (dd (.clsm "Ternary" "from_digits") "from_digits" "Ternary.from_digits" (mth 9 3) [] [])) rfl)
  have b__law_digits : Binds K fd__law_digits ["_law_given", "_law_radix"] [] := F__law_digits.bindsN fun _ _ _ _ _ _ us hl => match us, hl with | [_, _], _ => rfl
  have b_Ternary_init : Binds K fd_Ternary_init ["self", "number"] [] := F_Ternary_init.bindsN fun _ _ _ _ _ _ us hl => match us, hl with | [_, _], _ => rfl
  have b_Ternary_str : Binds K fd_Ternary_str ["self"] [] := F_Ternary_str.bindsN fun _ _ _ _ _ _ us hl => match us, hl with | [_], _ => rfl
  have b_Ternary_digits : Binds K fd_Ternary_digits ["self"] [] := F_Ternary_digits.bindsN fun _ _ _ _ _ _ us hl => match us, hl with | [_], _ => rfl
  have b_Ternary_eq : Binds K fd_Ternary_eq ["self", "other"] [] := F_Ternary_eq.bindsN fun _ _ _ _ _ _ us hl => match us, hl with | [_, _], _ => rfl
  have b_Ternary_number : Binds K fd_Ternary_number ["self"] [] := F_Ternary_number.bindsN fun _ _ _ _ _ _ us hl => match us, hl with | [_], _ => rfl
  have sc := sc__law_last_right
  refine okP F sc rfl rfl (F := b__law_last_right) fun cdv A outer s H E hg hr tk hp => ?_
  exact ⟨_, (s_cons (s_set 1 sc.nd (d_of (f_cutL (d_op k_catL (d_call G__law_digits hg (hr.mono (by decide)) m__law_digits F__law_digits.kp b__law_digits .nil (fun _ => .nil) (d_cons (d_var 0) (d_cons d_int d_nil))) (d_of (f_lst (d_cons d_int (d_cons d_int (d_cons d_int d_nil)))))) o_none (o_some d_int))))
    (s_cons (s_set 2 sc.nd (d_cmethV kc_Ternary cr_Ternary_from_digits cm_Ternary_from_digits G_Ternary_from_digits hg (hr.mono (by decide)) mg_Ternary (d_cons (d_ixL (d_var 1) d_int) (d_cons (d_ixL (d_var 1) d_int) (d_cons (d_ixL (d_var 1) d_int) d_nil)))))
    (s_cons (s_set 3 sc.nd (d_cmethV kc_Ternary cr_Ternary_from_digits cm_Ternary_from_digits G_Ternary_from_digits hg (hr.mono (by decide)) mg_Ternary (d_cons d_int (d_cons d_int (d_cons (d_ixL (d_var 1) d_int) (d_cons (d_ixL (d_var 1) d_int) (d_cons (d_ixL (d_var 1) d_int) d_nil)))))))
    (s_cons (s_set 4 sc.nd (d_of (f_make kc_Ternary mk_Ternary G_Ternary_init hg (hr.mono (by decide)) mc_Ternary b_Ternary_init .nil (fun _ => .nil) (d_cons (d_op k_mod (d_var 0) d_int) d_nil))))
    (s_cons (s_if (d_or (d_tcmp (k_neO kc_Ternary me_Ternary_eq (ex_29 Z.says) G_Ternary_eq hg (hr.mono (by decide)) b_Ternary_eq) (d_var 2) (d_var 4)) (d_or (d_tcmp (k_neO kc_Ternary me_Ternary_eq (ex_29 Z.says) G_Ternary_eq hg (hr.mono (by decide)) b_Ternary_eq) (d_var 3) (d_var 4)) (d_or (d_tcmp (k_neD (u64 hr)) (d_prop kc_Ternary po_Ternary_digits G_Ternary_digits hg (hr.mono (by decide)) b_Ternary_digits (d_var 2)) (d_prop kc_Ternary po_Ternary_digits G_Ternary_digits hg (hr.mono (by decide)) b_Ternary_digits (d_var 4))) (d_or1 (d_tcmp k_neS (d_callT (c_strO kc_Ternary me_Ternary_str G_Ternary_str hg (hr.mono (by decide)) b_Ternary_str) fr_str rfl (d_cons (d_var 3) d_nil)) (d_callT (c_strO kc_Ternary me_Ternary_str G_Ternary_str hg (hr.mono (by decide)) b_Ternary_str) fr_str rfl (d_cons (d_var 4) d_nil))))))).pt
    (s_one (s_ret d_bl))
    s_nil)
    (s_cons (s_set 5 sc.nd d_int)
    (s_cons (s_for hp (w_tup (d_tup (d_cons d_int (d_cons (d_ixL (d_var 1) d_int) (d_cons d_int (d_cons (d_ixL (d_var 1) d_int) (d_cons d_int (d_cons (d_ixL (d_var 1) d_int) (d_cons d_int (d_cons d_int (d_cons d_int d_nil))))))))))) (g_name 6 sc.nd)
    (s_one (s_set 5 sc.nd (d_op k_add (d_op k_mul d_int (d_var 5)) (d_var 6)))))
    (s_cons (s_if (d_tcmp (k_neD (u64 hr)) (d_prop kc_Ternary po_Ternary_number G_Ternary_number hg (hr.mono (by decide)) b_Ternary_number (d_cmethV kc_Ternary cr_Ternary_from_digits cm_Ternary_from_digits G_Ternary_from_digits hg (hr.mono (by decide)) mg_Ternary (d_cons d_int (d_cons (d_ixL (d_var 1) d_int) (d_cons d_int (d_cons (d_ixL (d_var 1) d_int) (d_cons d_int (d_cons (d_ixL (d_var 1) d_int) (d_cons d_int (d_cons d_int (d_cons d_int d_nil))))))))))) (d_var 5))
    (s_one (s_ret d_bl))
    s_nil)
    (s_one (s_ret (d_vand (d_cmp (k_eqD (u64 hr)) (d_prop kc_Ternary po_Ternary_number G_Ternary_number hg (hr.mono (by decide)) b_Ternary_number (d_cmethV kc_Ternary cr_Ternary_from_digits cm_Ternary_from_digits G_Ternary_from_digits hg (hr.mono (by decide)) mg_Ternary (d_cons (d_ixL (d_var 1) d_int) d_nil))) (d_ixL (d_var 1) d_int)) (d_vone (d_cmp (k_eqO kc_Ternary me_Ternary_eq G_Ternary_eq hg (hr.mono (by decide)) b_Ternary_eq) (d_cmethV0 kc_Ternary cr_Ternary_from_digits cm_Ternary_from_digits G_Ternary_from_digits hg (hr.mono (by decide)) mg_Ternary) (d_of (f_make kc_Ternary mk_Ternary G_Ternary_init hg (hr.mono (by decide)) mc_Ternary b_Ternary_init .nil (fun _ => .nil) (d_cons d_int d_nil))))))))))))))))⟩
/-! _law_errors_right -/
def b__law_errors_right : S → M Out := (sSeq (sOwn 1 (dLst (aCons (dLam 2 "_law_errors_right.<locals>.<lambda>" 3 [0] (dCMethV "Ternary" f_Ternary_from_digits (aCons (dVar 0) aNil)) T__law_told) aNil)))
    (sSeq (sApp 1 (dLam 2 "_law_errors_right.<locals>.<lambda>" 3 [0] (dCMethV "Ternary" f_Ternary_from_digits (aCons (dC (.int 0)) (aCons (dC (.int 1)) (aCons (dVar 0) (aCons (dC (.int 5)) aNil))))) T__law_told))
    (sSeq (sApp 1 (dLam 2 "_law_errors_right.<locals>.<lambda>" 3 [0] (dCMethV "Ternary" f_Ternary_from_digits (aCons (dC (.int 5)) (aCons (dVar 0) aNil))) T__law_told))
    (sPub 1 (sRet (vAnd (dBin eqS (dCall reprN (aCons (dVar 1) aNil)) (dCall reprN (aCons (dLst (aCons (dLst (aCons (dVar 0) aNil)) (aCons (dLst (aCons (dVar 0) aNil)) (aCons (dLst (aCons (dC (.int 5)) aNil)) aNil)))) aNil))) (dBin isBl (dCallU 1 f_Ternary_is_digit [] (aCons (dVar 0) aNil)) (dC (.bl false)))))))))
def f__law_errors_right : FnD := runB 2 ["_law_errors_right.<locals>.<lambda>"] b__law_errors_right
abbrev tabs__law_errors_right (K : PySem.W.Frag) : List (Addr × Str) := [(tA K "_law_errors_right", "_law_errors_right.<locals>.<lambda>")]
theorem hcl__law_errors_right {K : PySem.W.Frag} : ∀ p ∈ tabs__law_errors_right K, ∃ ns, cl0 K p.2 = some (p.1, ns) := by
  intro p hp
  simp only [List.mem_cons, List.not_mem_nil, or_false] at hp
  subst hp; exact tcl__law_errors_right
theorem sc__law_errors_right : FnScope ["_law_odd", "_law_told_here", ".t0"] ["_law_odd"] (defScope (top 19)) := ⟨rfl, rfl, rfl, by decide +kernel, rfl, by decide +kernel, by decide +kernel⟩
abbrev D__law_errors_right (K : PySem.W.Frag) (fd : FuncData) : Prop := FunD K "_law_errors_right" "_law_errors_right" (defArgs (top 19)) (defBody (top 19)) (defScope (top 19)) [] [] (He.ga K "_law_errors_right") fd
theorem ok__law_errors_right {P : Program} {w : World} {K : PySem.W.Frag} {mg : Str → Option Value} {base : Heap} (Z : Ctx K mg) (ZT : TabsC K mg base) {fd : FuncData} (F : D__law_errors_right K fd) : FnG P w K mg base (L2.CX P w) 10 (He.ga K "_law_errors_right") fd ["_law_odd"] (spB K (cl0 K) 1 (tabs__law_errors_right K) f__law_errors_right) := by
  have fr_repr : mg "repr" = none := Z.fre "repr" (by decide)
  obtain ⟨fd__law_told, F__law_told⟩ : ∃ fd, D__law_told K fd := Z.says.def_ 12 (d := (dd (.fn "_law_told") "_law_told" "_law_told" (top 18) [] [])) rfl
  have G__law_told : FnL P w K mg base (cl0 K) 1 _ fd__law_told "_law_call" T__law_told := ok__law_told Z F__law_told
  have m__law_told : mg "_law_told" = some (.ref (He.ga K "_law_told")) := Z.glo "_law_told" (by decide)
  obtain ⟨fd_Ternary_from_digits, F_Ternary_from_digits⟩ : ∃ fd, D_Ternary_from_digits K fd := Z.says.def_ 24 (d := (dd (.clsm "Ternary" "from_digits") "from_digits" "Ternary.from_digits" (mth 9 3) [] [])) rfl
  have G_Ternary_from_digits : FnV P w K mg base 6 _ _ := ok_Ternary_from_digits Z F_Ternary_from_digits
  obtain ⟨fd_Ternary_is_digit, F_Ternary_is_digit⟩ : ∃ fd, D_Ternary_is_digit K fd := Z.says.def_ 25 (d := (dd (.stat "Ternary" "is_digit") "is_digit" "Ternary.is_digit" (mth 9 2) [] [])) rfl
  have G_Ternary_is_digit : FnG P w K mg base (L2.CX P w) 2 _ fd_Ternary_is_digit ["value"] _ := ok_Ternary_is_digit Z F_Ternary_is_digit
  have kc_Ternary := cls_Ternary (K := K) Z.says
  have mg_Ternary : mg "Ternary" = some (.ref (He.ga K "Ternary")) := Z.glo "Ternary" (by decide)
  obtain ⟨cr_Ternary_from_digits, cm_Ternary_from_digits⟩ := cm_of (ex_30 Z.says) (Z.says.at_ 24 (d := (dd (.clsm "Ternary" "from_digits") "from_digits" "Ternary.from_digits" (mth 9 3) [] [])) rfl)
  have sm_Ternary_is_digit := sm_of (ex_31 Z.says) (Z.says.at_ 25 (d := (dd (.stat "Ternary" "is_digit") "is_digit" "Ternary.is_digit" (mth 9 2) [] [])) rfl)
  have b__law_told : Binds K fd__law_told ["_law_call"] [] := F__law_told.bindsN fun _ _ _ _ _ _ us hl => match us, hl with | [_], _ => rfl
  have b_Ternary_is_digit : Binds K fd_Ternary_is_digit ["value"] [] := F_Ternary_is_digit.bindsN fun _ _ _ _ _ _ us hl => match us, hl with | [_], _ => rfl
  have sc := sc__law_errors_right
  have tin := tab_in (ex_33 Z.says)
  have tbm := ZT.tb _ _ _ (by decide) tin
  have code := code_of ZT tin (Z.glo "_law_errors_right" (by decide)) F
  refine okB (N := ["_law_odd", "_law_told_here"]) (G := [".t0"]) F sc rfl rfl rfl (un_by (by decide +kernel)) (nod_of (ex_32 Z.says)) hcl__law_errors_right (by decide) code (F := b__law_errors_right) fun cdv A outer s H E ec hg hr tk hp => ?_
  exact ⟨_, (s_cons (s_own 1 sc.nd (f_lst (d_cons (d_lam (k := 7) (m := 3) (q := "_law_errors_right.<locals>.<lambda>") 2 [0] (G__law_told.mono (by decide)) hg (hr.mono (by decide)) m__law_told F__law_told.kp b__law_told tbm ec (by rfl) (tcl__law_errors_right (K := K)) (LamX.lamS_by (sc := defScope (top 19)) (by decide +kernel)) (by rfl) (fun _ _ _ _ _ => rfl) (by exact fun A outer s H E f c' hg hr tk => (d_cmethV kc_Ternary cr_Ternary_from_digits cm_Ternary_from_digits G_Ternary_from_digits hg (hr.mono (by decide)) mg_Ternary (d_cons (d_var 0) d_nil)))) d_nil)))
    (s_cons (s_app 1 (d_lam (k := 7) (m := 3) (q := "_law_errors_right.<locals>.<lambda>") 2 [0] (G__law_told.mono (by decide)) hg (hr.mono (by decide)) m__law_told F__law_told.kp b__law_told tbm ec (by rfl) (tcl__law_errors_right (K := K)) (LamX.lamS_by (sc := defScope (top 19)) (by decide +kernel)) (by rfl) (fun _ _ _ _ _ => rfl) (by exact fun A outer s H E f c' hg hr tk => (d_cmethV kc_Ternary cr_Ternary_from_digits cm_Ternary_from_digits G_Ternary_from_digits hg (hr.mono (by decide)) mg_Ternary (d_cons d_int (d_cons d_int (d_cons (d_var 0) (d_cons d_int d_nil))))))))
    (s_cons (s_app 1 (d_lam (k := 7) (m := 3) (q := "_law_errors_right.<locals>.<lambda>") 2 [0] (G__law_told.mono (by decide)) hg (hr.mono (by decide)) m__law_told F__law_told.kp b__law_told tbm ec (by rfl) (tcl__law_errors_right (K := K)) (LamX.lamS_by (sc := defScope (top 19)) (by decide +kernel)) (by rfl) (fun _ _ _ _ _ => rfl) (by exact fun A outer s H E f c' hg hr tk => (d_cmethV kc_Ternary cr_Ternary_from_digits cm_Ternary_from_digits G_Ternary_from_digits hg (hr.mono (by decide)) mg_Ternary (d_cons d_int (d_cons (d_var 0) d_nil))))))
    (s_pub 1 (s_one (s_ret (d_vand (d_cmp k_eqS (d_callB (c_repr hg (u64 hr)) fr_repr rfl (d_cons (d_var 1) d_nil)) (d_callB (c_repr hg (u64 hr)) fr_repr rfl (d_cons (d_of (f_lst (d_cons (d_of (f_lst (d_cons (d_var 0) d_nil))) (d_cons (d_of (f_lst (d_cons (d_var 0) d_nil))) (d_cons (d_of (f_lst (d_cons d_int d_nil))) d_nil))))) d_nil))) (d_vone (d_cmp k_isB (d_smeth sm_Ternary_is_digit G_Ternary_is_digit hg (hr.mono (by decide)) mg_Ternary b_Ternary_is_digit .nil (fun _ => .nil) (d_cons (d_var 0) d_nil)) d_bl)))))))))⟩
/-! law -/
def b_law : S → M Out := (sSeq (sSet 1 (dLst (aCons (dCallU 1 f_Ternary_is_digit [] (aCons (dC (.int 0)) aNil)) (aCons (dCallU 1 f_Ternary_is_digit [] (aCons (dC (.int 1)) aNil)) (aCons (dCallK 1 0 1 f_Ternary_is_digit (fun as bs => as ++ bs) aNil (aCons (dC (.int 2)) aNil)) (aCons (dC (.int 3)) aNil))))))
    (sSeq (sIf (dTst (dBin neS (dCall reprN (aCons (dVar 1) aNil)) (dCall reprN (aCons (dLst (aCons (dC (.bl true)) (aCons (dC (.bl true)) (aCons (dC (.bl true)) (aCons (dC (.int 3)) aNil))))) aNil))))
    (sRet (dC (.bl false)))
    sNil)
    (sSeq (sFor (iEn (aCons (dCutL (dBin catL (dVar 0) (dLst (aCons (dC (.int 0)) aNil))) partNo (partAt (dC (.int 9)))) aNil)) (gTp (gsCons (gNm 2) (gsCons (gNm 3) gsNil)))
    (sSeq (sOwn 4 (dCallU 2 f__law_stream [] (aCons (dVar 3) (aCons (dVar 2) aNil))))
    (sSeq (sFor (iR1 (aCons (dC (.int 3)) aNil)) (gNm 5)
    (sSeq (sSet 7 (dCallI 4 1 f__law_number aNil))
    (sIf (dOr (dNot (dTst (dCallU 1 f__law_object_right [] (aCons (dVar 7) aNil)))) (dNot (dTst (dCallU 1 f__law_last_right [] (aCons (dVar 7) aNil)))))
    (sRet (dC (.bl false)))
    sNil)))
    (sSeq (sSet 6 (dBin ixL (dLst (aCons (dC .non) (aCons (dC (.bl true)) (aCons (dC (.bl false)) (aCons (dNeg (dC (.int 1))) (aCons (dC (.int 3)) (aCons (dC (.str "1")) (aCons (dTup (aCons (dC (.int 1)) aNil)) (aCons (dLst aNil) (aCons (dBin powI (dC (.int 10)) (dC (.int 40))) aNil)))))))))) (dCallI 4 2 f__law_draw (aCons (dC (.int 9)) aNil))))
    (sIf (dNot (dTst (dCallB 1 [(8, "_law_errors_right.<locals>.<lambda>")] f__law_errors_right (aCons (dVar 6) aNil))))
    (sRet (dC (.bl false)))
    sNil)))))
    (sRet (vAnd (dBin (ownQ "Ternary" f_Ternary_eq id) (dCMethV "Ternary" f_Ternary_from_digits (aCons (dC (.int 1)) (aCons (dC (.int 2)) aNil))) (dMake "Ternary" 2 f_Ternary_init [] (aCons (dC (.int 5)) aNil))) (vAnd (dBin eqS (dCall (strO "Ternary" f_Ternary_str) (aCons (dMake "Ternary" 2 f_Ternary_init [] (aCons (dC (.int 5)) aNil)) aNil)) (dC (.str "12"))) (dBin eqS (dCall (strO "Ternary" f_Ternary_str) (aCons (dMake "Ternary" 2 f_Ternary_init [] (aCons (dC (.int 0)) aNil)) aNil)) (dC (.str "0")))))))))
def f_law : FnD := runB 8 ["_law_errors_right.<locals>.<lambda>"] b_law
abbrev tabs_law (K : PySem.W.Frag) : List (Addr × Str) := [(tA K "_law_errors_right", "_law_errors_right.<locals>.<lambda>")]
theorem hcl_law {K : PySem.W.Frag} : ∀ p ∈ tabs_law K, ∃ ns, cl0 K p.2 = some (p.1, ns) := by
  intro p hp
  simp only [List.mem_cons, List.not_mem_nil, or_false] at hp
  subst hp; exact tcl__law_errors_right
theorem sc_law : FnScope ["_law_script", "_law_told_here", "_law_k", "_law_item", "_law_stream_here", "_law_turn", "_law_odd", "_law_given", ".t0"] ["_law_script"] (defScope (top 20)) := ⟨rfl, rfl, rfl, by decide +kernel, rfl, by decide +kernel, by decide +kernel⟩
abbrev D_law (K : PySem.W.Frag) (fd : FuncData) : Prop := FunD K "law" "law" (defArgs (top 20)) (defBody (top 20)) (defScope (top 20)) [] [] (He.ga K "law") fd
theorem ok_law {P : Program} {w : World} {K : PySem.W.Frag} {mg : Str → Option Value} {base : Heap} (Z : Ctx K mg) (ZT : TabsC K mg base) {fd : FuncData} (F : D_law K fd) : FnG P w K mg base (L2.CX P w) 11 (He.ga K "law") fd ["_law_script"] (spB K (cl0 K) 1 (tabs_law K) f_law) := by
  have fr_repr : mg "repr" = none := Z.fre "repr" (by decide)
  have fr_enumerate : mg "enumerate" = none := Z.fre "enumerate" (by decide)
  have fr_range : mg "range" = none := Z.fre "range" (by decide)
  have fr_str : mg "str" = none := Z.fre "str" (by decide)
  obtain ⟨fd_Ternary_is_digit, F_Ternary_is_digit⟩ : ∃ fd, D_Ternary_is_digit K fd := Z.says.def_ 25 (d := (dd (.stat "Ternary" "is_digit") "is_digit" "Ternary.is_digit" (mth 9 2) [] [])) rfl
  have G_Ternary_is_digit : FnG P w K mg base (L2.CX P w) 2 _ fd_Ternary_is_digit ["value"] _ := ok_Ternary_is_digit Z F_Ternary_is_digit
  obtain ⟨fd__law_stream, F__law_stream⟩ : ∃ fd, D__law_stream K fd := Z.says.def_ 6 (d := (dd (.fn "_law_stream") "_law_stream" "_law_stream" (top 12) [] [])) rfl
  have G__law_stream : FnG P w K mg base (L2.CX P w) 2 _ fd__law_stream ["_law_item", "_law_k"] _ := ok__law_stream Z F__law_stream
  have m__law_stream : mg "_law_stream" = some (.ref (He.ga K "_law_stream")) := Z.glo "_law_stream" (by decide)
  obtain ⟨fd__law_number, F__law_number⟩ : ∃ fd, D__law_number K fd := Z.says.def_ 8 (d := (dd (.fn "_law_number") "_law_number" "_law_number" (top 14) [] [])) rfl
  have G__law_number : FnG P w K mg base (L2.CX P w) 3 _ fd__law_number ["_law_stream_here"] _ := ok__law_number Z F__law_number
  have m__law_number : mg "_law_number" = some (.ref (He.ga K "_law_number")) := Z.glo "_law_number" (by decide)
  obtain ⟨fd__law_last_right, F__law_last_right⟩ : ∃ fd, D__law_last_right K fd := Z.says.def_ 11 (d := (dd (.fn "_law_last_right") "_law_last_right" "_law_last_right" (top 17) [] [])) rfl
  have G__law_last_right : FnG P w K mg base (L2.CX P w) 8 _ fd__law_last_right ["_law_given"] _ := ok__law_last_right Z F__law_last_right
  have m__law_last_right : mg "_law_last_right" = some (.ref (He.ga K "_law_last_right")) := Z.glo "_law_last_right" (by decide)
  obtain ⟨fd__law_object_right, F__law_object_right⟩ : ∃ fd, D__law_object_right K fd := Z.says.def_ 10 (d := (dd (.fn "_law_object_right") "_law_object_right" "_law_object_right" (top 16) [] [])) rfl
  have G__law_object_right : FnG P w K mg base (L2.CX P w) 6 _ fd__law_object_right ["_law_given"] _ := ok__law_object_right Z F__law_object_right
  have m__law_object_right : mg "_law_object_right" = some (.ref (He.ga K "_law_object_right")) := Z.glo "_law_object_right" (by decide)
  obtain ⟨fd__law_draw, F__law_draw⟩ : ∃ fd, D__law_draw K fd := Z.says.def_ 7 (d := (dd (.fn "_law_draw") "_law_draw" "_law_draw" (top 13) [] [])) rfl
  have G__law_draw : FnG P w K mg base (L2.CX P w) 2 _ fd__law_draw ["_law_stream_here", "_law_top"] _ := ok__law_draw Z F__law_draw
  have m__law_draw : mg "_law_draw" = some (.ref (He.ga K "_law_draw")) := Z.glo "_law_draw" (by decide)
  obtain ⟨fd__law_errors_right, F__law_errors_right⟩ : ∃ fd, D__law_errors_right K fd := Z.says.def_ 13 (d := (dd (.fn "_law_errors_right") "_law_errors_right" "_law_errors_right" (top 19) [] [])) rfl
  have G__law_errors_right : FnG P w K mg base (L2.CX P w) 10 _ fd__law_errors_right ["_law_odd"] _ := ok__law_errors_right Z ZT F__law_errors_right
  have m__law_errors_right : mg "_law_errors_right" = some (.ref (He.ga K "_law_errors_right")) := Z.glo "_law_errors_right" (by decide)
  obtain ⟨fd_Ternary_str, F_Ternary_str⟩ : ∃ fd, D_Ternary_str K fd := Z.says.def_ 23 (d := (dd (.meth "Ternary" "__str__") "__str__" "Ternary.__str__" (mth 9 9) [] [])) rfl
  have G_Ternary_str : FnG P w K mg base (L2.CX P w) 1 _ fd_Ternary_str ["self"] _ := ok_Ternary_str Z F_Ternary_str
  have me_Ternary_str := He.meth_ok (x := "Ternary") (m := "__str__") (Z.says.at_ 23 (d := (dd (.meth "Ternary" "__str__") "__str__" "Ternary.__str__" (mth 9 9) [] [])) rfl)
  obtain ⟨fd_Ternary_init, F_Ternary_init⟩ : ∃ fd, D_Ternary_init K fd := Z.says.def_ 20 (d := (dd (.meth "Ternary" "__init__") "__init__" "Ternary.__init__" (mth 9 1) [] [])) rfl
  have G_Ternary_init : FnG P w K mg base (L2.CX P w) 4 _ fd_Ternary_init ["self", "number"] _ := ok_Ternary_init Z F_Ternary_init
  have me_Ternary_init := He.meth_ok (x := "Ternary") (m := "__init__") (Z.says.at_ 20 (d := (dd (.meth "Ternary" "__init__") "__init__" "Ternary.__init__" (mth 9 1) [] [])) rfl)
  obtain ⟨fd_Ternary_eq, F_Ternary_eq⟩ : ∃ fd, D_Ternary_eq K fd := Z.says.def_ 21 (d := (dd (.meth "Ternary" "__eq__") "__eq__" "Ternary.__eq__" (mth 9 8) [] [])) rfl
  have G_Ternary_eq : FnG P w K mg base (L2.CX P w) 1 _ fd_Ternary_eq ["self", "other"] _ := ok_Ternary_eq Z F_Ternary_eq
  have me_Ternary_eq := He.meth_ok (x := "Ternary") (m := "__eq__") (Z.says.at_ 21 (d := (dd (.meth "Ternary" "__eq__") "__eq__" "Ternary.__eq__" (mth 9 8) [] [])) rfl)
  obtain ⟨fd_Ternary_from_digits, F_Ternary_from_digits⟩ : ∃ fd, D_Ternary_from_digits K fd := Z.says.def_ 24 (d := (dd (.clsm "Ternary" "from_digits") "from_digits" "Ternary.from_digits" (mth 9 3) [] [])) rfl
  have G_Ternary_from_digits : FnV P w K mg base 6 _ _ := ok_Ternary_from_digits Z F_Ternary_from_digits
  have kc_Ternary := cls_Ternary (K := K) Z.says
  have mk_Ternary := He.mkr_ok (x := "Ternary") (Z.says.facts (by simp [fa, clsfacts]))
  have mc_Ternary : mg "Ternary" = some (.ref (He.ga K "Ternary")) := Z.glo "Ternary" (by decide)
  have mg_Ternary : mg "Ternary" = some (.ref (He.ga K "Ternary")) := Z.glo "Ternary" (by decide)
  obtain ⟨cr_Ternary_RADIX, _, cv_Ternary_RADIX⟩ := cval_of (ex_34 Z.says)
  obtain ⟨cr_Ternary_from_digits, cm_Ternary_from_digits⟩ := cm_of (ex_30 Z.says) (Z.says.at_ 24 (d := (dd (.clsm "Ternary" "from_digits") "from_digits" "Ternary.from_digits" (mth 9 3) [] [])) rfl)
  have sm_Ternary_is_digit := sm_of (ex_31 Z.says) (Z.says.at_ 25 (d := (dd (.stat "Ternary" "is_digit") "is_digit" "Ternary.is_digit" (mth 9 2) [] [])) rfl)
  have b_Ternary_is_digit_0_value := kbN F_Ternary_is_digit 0 ["value"] (ps := ["value"]) (fun as bs => as ++ bs) (fun a b => a.append b) fun _ _ _ _ _ _ us ws h1 h2 => match us, ws, h1, h2 with | [], [_], _, _ => rfl
  have b_Ternary_is_digit : Binds K fd_Ternary_is_digit ["value"] [] := F_Ternary_is_digit.bindsN fun _ _ _ _ _ _ us hl => match us, hl with | [_], _ => rfl
  have b__law_stream : Binds K fd__law_stream ["_law_item", "_law_k"] [] := F__law_stream.bindsN fun _ _ _ _ _ _ us hl => match us, hl with | [_, _], _ => rfl
  have b__law_last_right : Binds K fd__law_last_right ["_law_given"] [] := F__law_last_right.bindsN fun _ _ _ _ _ _ us hl => match us, hl with | [_], _ => rfl
  have b__law_object_right : Binds K fd__law_object_right ["_law_given"] [] := F__law_object_right.bindsN fun _ _ _ _ _ _ us hl => match us, hl with | [_], _ => rfl
  have b__law_errors_right : Binds K fd__law_errors_right ["_law_odd"] [] := F__law_errors_right.bindsN fun _ _ _ _ _ _ us hl => match us, hl with | [_], _ => rfl
  have b_Ternary_str : Binds K fd_Ternary_str ["self"] [] := F_Ternary_str.bindsN fun _ _ _ _ _ _ us hl => match us, hl with | [_], _ => rfl
  have b_Ternary_init : Binds K fd_Ternary_init ["self", "number"] [] := F_Ternary_init.bindsN fun _ _ _ _ _ _ us hl => match us, hl with | [_, _], _ => rfl
  have b_Ternary_eq : Binds K fd_Ternary_eq ["self", "other"] [] := F_Ternary_eq.bindsN fun _ _ _ _ _ _ us hl => match us, hl with | [_, _], _ => rfl
  have b__law_number : Binds K fd__law_number ["_law_stream_here"] [] := F__law_number.bindsN fun _ _ _ _ _ _ us hl => match us, hl with | [_], _ => rfl
  have b__law_draw : Binds K fd__law_draw ["_law_stream_here", "_law_top"] [] := F__law_draw.bindsN fun _ _ _ _ _ _ us hl => match us, hl with | [_, _], _ => rfl
  have sc := sc_law
  refine okB (N := ["_law_script", "_law_told_here", "_law_k", "_law_item", "_law_stream_here", "_law_turn", "_law_odd", "_law_given"]) (G := [".t0"]) F sc rfl rfl rfl (un_by (by decide +kernel)) (nod_of (ex_32 Z.says)) hcl_law (by decide) rfl (F := b_law) fun cdv A outer s H E ec hg hr tk hp => ?_
  exact ⟨_, (s_cons (s_set 1 sc.nd (d_of (f_lst (d_cons (d_smeth sm_Ternary_is_digit G_Ternary_is_digit hg (hr.mono (by decide)) mg_Ternary b_Ternary_is_digit .nil (fun _ => .nil) (d_cons d_int d_nil)) (d_cons (d_smeth sm_Ternary_is_digit G_Ternary_is_digit hg (hr.mono (by decide)) mg_Ternary b_Ternary_is_digit .nil (fun _ => .nil) (d_cons d_int d_nil)) (d_cons (d_smethK0 (ks := ["value"]) (gD := (fun as bs => as ++ bs)) sm_Ternary_is_digit G_Ternary_is_digit hg (hr.mono (by decide)) mg_Ternary b_Ternary_is_digit_0_value (fun _ _ _ _ _ a b => a.append b) (k_cons d_int k_nil)) (d_cons (d_cval mg_Ternary cr_Ternary_RADIX cv_Ternary_RADIX) d_nil)))))))
    (s_cons (s_if (d_tcmp k_neS (d_callB (c_repr hg (u64 hr)) fr_repr rfl (d_cons (d_var 1) d_nil)) (d_callB (c_repr hg (u64 hr)) fr_repr rfl (d_cons (d_of (f_lst (d_cons d_bl (d_cons d_bl (d_cons d_bl (d_cons d_int d_nil)))))) d_nil)))
    (s_one (s_ret d_bl))
    s_nil)
    (s_cons (s_for hp (w_enum fr_enumerate (d_cons (d_of (f_cutL (d_op k_catL (d_var 0) (d_of (f_lst (d_cons d_int d_nil)))) o_none (o_some d_int))) d_nil)) (g_tup rfl (gs_cons (g_name 2 sc.nd) (gs_cons (g_name 3 sc.nd) gs_nil)) 2 (gsl_cons (gsl_cons gsl_nil)))
    (s_cons (s_own 4 sc.nd (f_call G__law_stream hg (hr.mono (by decide)) m__law_stream F__law_stream.kp b__law_stream .nil (fun _ => .nil) (d_cons (d_var 3) (d_cons (d_var 2) d_nil))))
    (s_cons (s_for hp (w_range1 fr_range (d_cons d_int d_nil)) (g_name 5 sc.nd)
    (s_cons (s_set 7 sc.nd (d_callI 4 G__law_number hg (hr.mono (by decide)) m__law_number F__law_number.kp b__law_number d_nil))
    (s_one (s_if (d_or (d_not (d_tst (d_call G__law_object_right hg (hr.mono (by decide)) m__law_object_right F__law_object_right.kp b__law_object_right .nil (fun _ => .nil) (d_cons (d_var 7) d_nil)))) (d_or1 (d_not (d_tst (d_call G__law_last_right hg (hr.mono (by decide)) m__law_last_right F__law_last_right.kp b__law_last_right .nil (fun _ => .nil) (d_cons (d_var 7) d_nil)))))).pt
    (s_one (s_ret d_bl))
    s_nil))))
    (s_cons (s_set 6 sc.nd (d_ixL (d_of (f_lst (d_cons d_non (d_cons d_bl (d_cons d_bl (d_cons (d_neg d_int) (d_cons d_int (d_cons d_str (d_cons (d_tup (d_cons d_int d_nil)) (d_cons (d_of (f_lst d_nil)) (d_cons (d_op k_pow d_int d_int) d_nil))))))))))) (d_callI 4 G__law_draw hg (hr.mono (by decide)) m__law_draw F__law_draw.kp b__law_draw (d_cons d_int d_nil))))
    (s_one (s_if (d_not (d_tst (d_callTB G__law_errors_right (hcl__law_errors_right (K := K)) [(8, "_law_errors_right.<locals>.<lambda>")] rfl hg (hr.mono (by decide)) m__law_errors_right F__law_errors_right.kp b__law_errors_right (d_cons (d_var 6) d_nil))))
    (s_one (s_ret d_bl))
    s_nil))))))
    (s_one (s_ret (d_vand (d_cmp (k_eqO kc_Ternary me_Ternary_eq G_Ternary_eq hg (hr.mono (by decide)) b_Ternary_eq) (d_cmethV kc_Ternary cr_Ternary_from_digits cm_Ternary_from_digits G_Ternary_from_digits hg (hr.mono (by decide)) mg_Ternary (d_cons d_int (d_cons d_int d_nil))) (d_of (f_make kc_Ternary mk_Ternary G_Ternary_init hg (hr.mono (by decide)) mc_Ternary b_Ternary_init .nil (fun _ => .nil) (d_cons d_int d_nil)))) (d_vand (d_cmp k_eqS (d_callT (c_strO kc_Ternary me_Ternary_str G_Ternary_str hg (hr.mono (by decide)) b_Ternary_str) fr_str rfl (d_cons (d_of (f_make kc_Ternary mk_Ternary G_Ternary_init hg (hr.mono (by decide)) mc_Ternary b_Ternary_init .nil (fun _ => .nil) (d_cons d_int d_nil))) d_nil)) d_str) (d_vone (d_cmp k_eqS (d_callT (c_strO kc_Ternary me_Ternary_str G_Ternary_str hg (hr.mono (by decide)) b_Ternary_str) fr_str rfl (d_cons (d_of (f_make kc_Ternary mk_Ternary G_Ternary_init hg (hr.mono (by decide)) mc_Ternary b_Ternary_init .nil (fun _ => .nil) (d_cons d_int d_nil))) d_nil)) d_str)))))))))⟩
end Tf
end
noncomputable section
namespace Tf
open PySem Dt
local macro_rules
  | `(tactic| simp_arith [$ts,*]) => `(tactic| simp only [runP, runF, runI, sSeq, sSet, sRet, sRetF, sRetN, sIf, sAsg, sPar, sPar3, sExpr, sNil, sNever, sPub, sOwn, sApp, sPut, dBin, dVar, dC, dTst, dNot, dAnd, dOr, vAnd, vOr, vNot, dIf, dTup, dLst, aNil, aCons, dCall, dCallU, dCallK, dCallI, dIsi, dOwnIx, gNm, gTp, gsNil, gsCons, iR1, iEn, iLst, dListZip, dRep, ownL, ownD, putL, putD, pubS, bd_ok', v_add, v_sub, v_lt, v_le, v_gt, v_ge, v_is0, v_is1, v_eqI, v_neI, v_isII, v_isBI, List.map_cons, List.map_nil, List.cons_append, List.nil_append, List.append_nil, List.length_cons, List.length_nil, List.replicate, List.getElem?_cons_zero, List.getElem?_cons_succ, List.set_cons_zero, List.set_cons_succ, if_true, if_false, Nat.reduceAdd, Nat.reduceSub, Nat.reduceEqDiff, Bool.false_eq_true, Bool.not_true, Bool.not_false, decide_true, decide_false, and_self, bdC_ok, bdI_ok, bdM_ok, nx_ok, exI_ok, $ts,*])
theorem iaI_int (i : Int) : isA [] [("NoneType", false), ("bool", true), ("int", true), ("str", false), ("list", false), ("tuple", false), ("dict", false)] (.int i) = ok (.bl true) := rfl
theorem iaB_int (i : Int) : isA [] [("NoneType", false), ("bool", true), ("int", false), ("str", false), ("list", false), ("tuple", false), ("dict", false)] (.int i) = ok (.bl false) := rfl
theorem m2 (i : Int) : mulI (.int 2) (.int i) = ok (.int (2 * i)) := v_mulL (j := i) (show -(2 ^ 64) < (2 : Int) by decide) (show (2 : Int) < 2 ^ 64 by decide)
theorem pow10 (n : Nat) (h : n ≤ 1000000) : powI (.int 10) (.int n) = ok (.int (10 ^ n)) := by
  rw [v_pow]
  · rfl
  · refine ⟨by omega, by omega, by decide⟩
def mixed (a k : Int) : Int := ((a % 2147483647 + 7919 * k * k + 31 * k) * 48271 % 2147483647) * (69621 + 2 * k) % 2147483629
theorem e_mixed (a k : Int) (h0 : 0 ≤ k) (hk : k < 2 ^ 60) : f__law_mixed [.int a, .int k] = ok (.int (mixed a k)) := by
  have h1 : -(2 ^ 64) < k := by omega
  have h2 : k < 2 ^ 64 := by omega
  have h3 := Int.emod_nonneg ((a % 2147483647 + 7919 * k * k + 31 * k) * 48271) (show (2147483647 : Int) ≠ 0 by decide)
  have h4 := Int.emod_lt_of_pos ((a % 2147483647 + 7919 * k * k + 31 * k) * 48271) (show (0 : Int) < 2147483647 by decide)
  have h5 : -(2 ^ 64) < (a % 2147483647 + 7919 * k * k + 31 * k) * 48271 % 2147483647 := by omega
  have h6 : (a % 2147483647 + 7919 * k * k + 31 * k) * 48271 % 2147483647 < 2 ^ 64 := by omega
  simp_arith [f__law_mixed, b__law_mixed, v_mod (show (0 : Int) < 2147483647 by decide), v_mod (show (0 : Int) < 2147483629 by decide), v_mulL (show -(2 ^ 64) < (7919 : Int) by decide) (show (7919 : Int) < 2 ^ 64 by decide), v_mulL (show -(2 ^ 64) < (31 : Int) by decide) (show (31 : Int) < 2 ^ 64 by decide),
    v_mulL (show -(2 ^ 64) < (2 : Int) by decide) (show (2 : Int) < 2 ^ 64 by decide), v_mulR (show -(2 ^ 64) < (48271 : Int) by decide) (show (48271 : Int) < 2 ^ 64 by decide), v_mulR h1 h2, v_mulL h5 h6]
  rfl
/-- a stream of draws, its counter at most n -/
def Strm (n : Nat) (d : D) : Prop := ∃ a c m : Int, d = .lst [.int a, .int c, .int m] ∧ 0 ≤ a ∧ 0 ≤ c ∧ c ≤ n
theorem Strm.mono {n m : Nat} {d : D} (h : Strm n d) (l : n ≤ m) : Strm m d := by
  obtain ⟨a, c, x, e, h1, h2, h3⟩ := h
  exact ⟨a, c, x, e, h1, h2, by omega⟩
theorem Strm.reg {n : Nat} {d : D} (h : Strm n d) : d.isReg = false := by
  obtain ⟨a, c, x, rfl, _⟩ := h
  rfl
theorem three {x y z : D} : [x, y, z].length ≤ sizeLine := by
  show 3 ≤ 2 ^ 24
  decide
theorem e_stream (a k : Int) (h0 : 0 ≤ k) (hk : k < 2 ^ 60) : ∃ d, f__law_stream [.int a, .int k] = ok d ∧ Strm 0 d := by
  have hp := pow10 18 (by decide)
  have ht : 0 + 1 + 1 + 1 ≤ sizeLine := by
    show 3 ≤ 2 ^ 24
    decide
  by_cases h : (10 : Int) ^ 18 ≤ a
  · refine ⟨.lst [.int a, .int 0, .int (mixed a k)], ?_, a, 0, _, rfl, by omega, by omega, by omega⟩
    simp_arith [f__law_stream, b__law_stream, show (18 : Int) = ((18 : Nat) : Int) from rfl, hp, e_mixed a k h0 hk, h, three, ht]
  · refine ⟨.lst [.int 0, .int 0, .int (mixed a k)], ?_, 0, 0, _, rfl, by omega, by omega, by omega⟩
    simp_arith [f__law_stream, b__law_stream, show (18 : Int) = ((18 : Nat) : Int) from rfl, hp, e_mixed a k h0 hk, h, three, ht]
theorem at0 {x y z : D} : L2.atI [x, y, z] 0 = some x := rfl
theorem at1 {x y z : D} : L2.atI [x, y, z] 1 = some y := rfl
theorem at2 {x y z : D} : L2.atI [x, y, z] 2 = some z := rfl
theorem ix0 : L2.ixN 3 0 = some 0 := rfl
theorem ix1 : L2.ixN 3 1 = some 1 := rfl
theorem e_draw {n : Nat} {d : D} {top : Int} (h : Strm n d) (hn : n < 2 ^ 50) (ht : 0 < top) (hd : divOk top) : ∃ r d', f__law_draw d [.int top] = ok (.int r, d') ∧ 0 ≤ r ∧ r < top ∧ Strm (n + 1) d' := by
  obtain ⟨a, c, m, rfl, h1, h2, h3⟩ := h
  have e1 := e_mixed m (c + 1) (by omega) (by omega)
  have e2 := e_mixed (mixed m (c + 1)) 7 (by decide) (by decide)
  by_cases ha : a = 0
  · subst ha
    refine ⟨mixed (mixed m (c + 1)) 7 % top, .lst [.int 0, .int (c + 1), .int m], ?_, Int.emod_nonneg _ (by omega), Int.emod_lt_of_pos _ ht, 0, c + 1, m, rfl, by omega, by omega, by omega⟩
    simp_arith [f__law_draw, b__law_draw, at0, at1, at2, ix0, ix1, e1, e2, v_mod ht]
  · refine ⟨a % top, .lst [.int (a / top), .int (c + 1), .int m], ?_, Int.emod_nonneg _ (by omega), Int.emod_lt_of_pos _ ht, a / top, c + 1, m, rfl, Int.ediv_nonneg h1 (by omega), by omega, by omega⟩
    simp_arith [f__law_draw, b__law_draw, at0, at1, at2, ix0, ix1, e1, e2, v_mod ht, v_div hd, ha]
theorem divOk_nat {n : Nat} (h : 0 < n) (h2 : n < 2 ^ 9000) : divOk (n : Int) := by
  refine ⟨by omega, ?_⟩
  have : (n : Int).natAbs = n := rfl
  rw [this]
  exact (Nat.log2_lt (by omega)).mpr h2
theorem dvSmall {n : Nat} (h : 0 < n) (h2 : n < 2 ^ 400) : divOk (n : Int) := divOk_nat h (Nat.lt_of_lt_of_le h2 (Nat.pow_le_pow_right (by decide) (by decide)))
/-- the number of a stream -/
theorem e_number {n : Nat} {d : D} (h : Strm n d) (hn : n < 2 ^ 49) : ∃ r d', f__law_number d [] = ok (.int r, d') ∧ 0 ≤ r ∧ r < 3 ^ 126 ∧ Strm (n + 130) d' := by
  obtain ⟨w, d1, e1, w0, w1, s1⟩ := e_draw (top := 4) h (by omega) (by decide) (dvSmall (n := 4) (by decide) (by decide))
  have p30 := pow10 30 (by decide)
  by_cases h0 : w = 0
  · subst h0
    obtain ⟨r, d2, e2, r0, r1, s2⟩ := e_draw (top := 100) s1 (by omega) (by decide) (dvSmall (n := 100) (by decide) (by decide))
    refine ⟨r, d2, ?_, r0, Int.lt_trans r1 (by decide), s2.mono (by omega)⟩
    simp_arith [f__law_number, b__law_number, e1, e2, h.reg, s1.reg]
  by_cases h1 : w = 1
  · subst h1
    obtain ⟨r, d2, e2, r0, r1, s2⟩ := e_draw (top := 10 ^ 30) s1 (by omega) (by decide) (dvSmall (n := 10 ^ 30) (by decide) (by decide))
    obtain ⟨q, d3, e3, q0, q1, s3⟩ := e_draw (top := 10 ^ 30) s2 (by omega) (by decide) (dvSmall (n := 10 ^ 30) (by decide) (by decide))
    have hr1 : -(2 ^ 64) < r := by omega
    refine ⟨r * 10 ^ 30 + q, d3, ?_, by omega, ?_, s3.mono (by omega)⟩
    · have hm : mulI (.int r) (.int (10 ^ 30)) = ok (.int (r * 10 ^ 30)) := by
        refine if_pos (.inr (.inr ?_))
        have a1 : r.natAbs < 2 ^ 100 := by omega
        have a2 : r.natAbs.log2 ≤ 100 := by
          by_cases z : r.natAbs = 0
          · rw [z]
            decide
          · exact Nat.le_of_lt ((Nat.log2_lt z).mpr a1)
        have a3 : (10 ^ 30 : Int).natAbs.log2 ≤ 100 := by decide
        omega
      simp_arith [f__law_number, b__law_number, show (30 : Int) = ((30 : Nat) : Int) from rfl, p30, e1, e2, e3, hm, h.reg, s1.reg, s2.reg, show ¬ (1 : Int) = 0 by decide]
    · have : (10 : Int) ^ 30 * 10 ^ 30 < 3 ^ 126 := by decide
      omega
  -- the loop
  obtain ⟨c, d2, e2, c0, c1, s2⟩ := e_draw (top := 120) s1 (by omega) (by decide) (dvSmall (n := 120) (by decide) (by decide))
  have hc : rngOk c := ⟨by omega, by omega⟩
  have len : (rangeD 0 c.toNat).length = c.toNat := rangeD_len _ _
  have loop : ∃ s', forL (gNm 3) (sSet 2 (dBin addI (dBin mulI (dC (.int 3)) (dVar 2)) (dIf (dTst (dBin eqD (dVar 1) (dC (.int 3)))) (dCallI 0 2 f__law_draw (aCons (dC (.int 2)) aNil)) (dC (.int 0))))) (rangeD 0 c.toNat) [.io d2, .val (.int w), .val (.int 1), .un] = ok (.nx s') ∧
      ∃ (dd : D) (f : Int) (x : Sl), s' = [.io dd, .val (.int w), .val (.int f), x] ∧ Strm (n + 2 + c.toNat) dd ∧ 0 ≤ f ∧ f + 1 ≤ 2 * 3 ^ c.toNat := by
    obtain ⟨s', e, dd, f, x, p1, p2, p3, p4⟩ := forL_inv (T := gNm 3) (F := sSet 2 (dBin addI (dBin mulI (dC (.int 3)) (dVar 2)) (dIf (dTst (dBin eqD (dVar 1) (dC (.int 3)))) (dCallI 0 2 f__law_draw (aCons (dC (.int 2)) aNil)) (dC (.int 0)))))
      (fun i s => ∃ (dd : D) (f : Int) (x : Sl), s = [.io dd, .val (.int w), .val (.int f), x] ∧ Strm (n + 2 + i) dd ∧ 0 ≤ f ∧ f + 1 ≤ 2 * 3 ^ i) (rangeD 0 c.toNat) 0 [.io d2, .val (.int w), .val (.int 1), .un] ⟨d2, 1, .un, rfl, s2, by decide, by decide⟩ (by
        rintro i d s hi ⟨dd, f, x, rfl, q1, q2, q3⟩
        have hi' : i < c.toNat := by
          (have := (List.getElem?_eq_some_iff.mp hi).1)
          rw [len] at this
          exact this
        rw [Nat.zero_add] at q1 q3 ⊢
        have q4 : (2 : Int) * 3 ^ (i + 1) = 3 * (2 * 3 ^ i) := by
          rw [Int.pow_succ]
          omega
        by_cases h3 : w = 3
        · subst h3
          obtain ⟨r, d3, e3, r0, r1, s3⟩ := e_draw (top := 2) q1 (by omega) (by decide) (dvSmall (n := 2) (by decide) (by decide))
          refine ⟨[.io dd, .val (.int 3), .val (.int f), .val d], [.io d3, .val (.int 3), .val (.int (3 * f + r)), .val d], rfl, ?_, d3, 3 * f + r, .val d, rfl, s3, by omega, by omega⟩
          simp_arith [v_mulL (show -(2 ^ 64) < (3 : Int) by decide) (show (3 : Int) < 2 ^ 64 by decide), e3, q1.reg]
        · refine ⟨[.io dd, .val (.int w), .val (.int f), .val d], [.io dd, .val (.int w), .val (.int (3 * f + 0)), .val d], rfl, ?_, dd, 3 * f + 0, .val d, rfl, q1.mono (by omega), by omega, by omega⟩
          simp_arith [v_mulL (show -(2 ^ 64) < (3 : Int) by decide) (show (3 : Int) < 2 ^ 64 by decide), h3])
    rw [len, Nat.zero_add] at p2 p4
    exact ⟨s', e, dd, f, x, p1, p2, p3, p4⟩
  obtain ⟨_, eL, d3, f, x, rfl, s3, f0, f1⟩ := loop
  obtain ⟨q, d4, e4, q0, q1, s4⟩ := e_draw (top := 3) s3 (by omega) (by decide) (dvSmall (n := 3) (by decide) (by decide))
  have pc : (3 : Int) ^ c.toNat ≤ 3 ^ 119 := by
    have z : (3 : Nat) ^ c.toNat ≤ 3 ^ 119 := Nat.pow_le_pow_right (by decide) (by omega)
    exact_mod_cast z
  have p126 : (2 : Int) * 3 ^ 119 + 10 < 3 ^ 126 := by decide
  refine ⟨if f + q - 1 > 0 then f + q - 1 else 0, d4, ?_, by split <;> omega, by split <;> omega, s4.mono (by omega)⟩
  simp_arith [f__law_number, b__law_number, sFor, max2N, e1, e2, h0, h1, hc, eL, e4, h.reg, s1.reg, s3.reg]
def dg (r n : Nat) : List Nat := if h : n = 0 ∨ r < 2 then [] else n % r :: dg r (n / r)
termination_by n
decreasing_by
  have h1 : n ≠ 0 := fun e => h (.inl e)
  exact Nat.div_lt_self (by omega) (by omega)
theorem dg_zero (r : Nat) : dg r 0 = [] := by
  rw [dg, dif_pos (.inl rfl)]
theorem dg_pos {r n : Nat} (hr : 2 ≤ r) (h : 0 < n) : dg r n = n % r :: dg r (n / r) := by
  rw [dg, dif_neg (by omega)]
theorem dg_len {r : Nat} (hr : 2 ≤ r) : ∀ (k n : Nat), n < r ^ k → (dg r n).length ≤ k
  | 0, n, h => by
    have : n = 0 := by simpa using h
    rw [this, dg_zero]
    exact Nat.le_refl _
  | k + 1, n, h => by
    by_cases z : n = 0
    · rw [z, dg_zero]
      exact Nat.zero_le _
    · rw [dg_pos hr (by omega), List.length_cons]
      have : n / r < r ^ k := by
        rw [Nat.div_lt_iff_lt_mul (by omega)]
        rw [Nat.pow_succ] at h
        exact h
      have := dg_len hr k (n / r) this
      omega
abbrev iN (ns : List Nat) : List D := iD (ns.map fun (k : Nat) => (k : Int))
theorem szl {n : Nat} (h : n ≤ 300) : n < sizeLine := by
  show n < 2 ^ 24
  omega
theorem digits_loop {r : Nat} (hr : 2 ≤ r) (hr2 : r < 2 ^ 20) : ∀ (k n : Nat) (acc : List Nat), n < r ^ k → acc.length + k ≤ 300 →
    sWhile (dTst (dBin gtI (dVar 0) (dC (.int 0)))) (sSeq (sApp 2 (dBin modI (dVar 0) (dVar 1))) (sSet 0 (dBin divI (dVar 0) (dVar 1)))) [.val (.int n), .val (.int r), .own (.lst (iN acc))] = ok (.nx [.val (.int 0), .val (.int r), .own (.lst (iN (acc ++ dg r n)))])
  | k, n, acc, h, hl => by
    by_cases z : n = 0
    · subst z
      rw [dg_zero, List.append_nil]
      refine while_end ?_
      simp_arith []
      rfl
    · cases k with
      | zero => exact absurd (by simpa using h) z
      | succ k =>
        have q : n / r < r ^ k := by
          rw [Nat.div_lt_iff_lt_mul (by omega)]
          rw [Nat.pow_succ] at h
          exact h
        have ih := digits_loop hr hr2 k (n / r) (acc ++ [n % r]) q (by rw [List.length_append]; simp; omega)
        rw [List.append_assoc, List.singleton_append, ← dg_pos hr (by omega)] at ih
        have hd : divOk (r : Int) := divOk_nat (by omega) (Nat.lt_of_lt_of_le hr2 (Nat.pow_le_pow_right (by decide) (by decide)))
        have hp : (0 : Int) < r := by omega
        have hn : (0 : Int) < n := by omega
        have hz : (iN acc).length < sizeLine := by
          rw [List.length_map, List.length_map]
          exact szl (by omega)
        have e1 : iN acc ++ [.int ((n : Int) % r)] = iN (acc ++ [n % r]) := by
          simp
        have e2 : ((n : Int) / r) = ((n / r : Nat) : Int) := rfl
        refine while_go ?_ ?_ ih
        · simp_arith [hn]
        · simp_arith [v_mod hp, v_div hd, hz, e1, e2]
theorem e_digits {r : Nat} (hr : 2 ≤ r) (hr2 : r < 2 ^ 20) (n : Nat) (h : n < r ^ 300) : f__law_digits [.int n, .int r] = ok (.lst (iN (dg r n))) := by
  have e := digits_loop hr hr2 300 n [] h (by simp)
  have e : _ = ok (Out.nx [Sl.val (D.int 0), Sl.val (D.int r), Sl.own (D.lst (iN (dg r n)))]) := e
  simp only [iN, iD, List.map_nil] at e
  have h0 : 0 ≤ sizeLine := Nat.zero_le _
  simp_arith [f__law_digits, b__law_digits, h0, e]
theorem digits_in_loop {r : Nat} (hr : 2 ≤ r) (hr2 : r < 2 ^ 20) : ∀ (k n : Nat) (acc : List Nat) (x : Sl), n < r ^ k → acc.length + k ≤ 300 →
    ∃ y, sWhile (dTst (dBin gtI (dVar 0) (dC (.int 0)))) (sSeq (sAsg (dCall divmodN (aCons (dVar 0) (aCons (dVar 1) aNil))) (gTp (gsCons (gNm 0) (gsCons (gNm 3) gsNil)))) (sApp 2 (dVar 3))) [.val (.int n), .val (.int r), .own (.lst (iN acc)), x] = ok (.nx [.val (.int 0), .val (.int r), .own (.lst (iN (acc ++ dg r n))), y])
  | k, n, acc, x, h, hl => by
    by_cases z : n = 0
    · subst z
      rw [dg_zero, List.append_nil]
      refine ⟨x, while_end ?_⟩
      simp_arith []
      rfl
    · cases k with
      | zero => exact absurd (by simpa using h) z
      | succ k =>
        have q : n / r < r ^ k := by
          rw [Nat.div_lt_iff_lt_mul (by omega)]
          rw [Nat.pow_succ] at h
          exact h
        obtain ⟨y, ih⟩ := digits_in_loop hr hr2 k (n / r) (acc ++ [n % r]) (.val (.int ((n : Int) % r))) q (by rw [List.length_append]; simp; omega)
        rw [List.append_assoc, List.singleton_append, ← dg_pos hr (by omega)] at ih
        have hp : divOk (r : Int) := divOk_nat (by omega) (Nat.lt_of_lt_of_le hr2 (Nat.pow_le_pow_right (by decide) (by decide)))
        have hn : (0 : Int) < n := by omega
        have hz : (iN acc).length < sizeLine := by
          rw [List.length_map, List.length_map]
          exact szl (by omega)
        have e1 : iN acc ++ [.int ((n : Int) % r)] = iN (acc ++ [n % r]) := by
          simp
        have e2 : ((n : Int) / r) = ((n / r : Nat) : Int) := rfl
        refine ⟨y, while_go ?_ ?_ ih⟩
        · simp_arith [hn]
        · simp_arith [divmodN, hp, hz, e1, e2]
theorem e_digits_in {r : Nat} (hr : 2 ≤ r) (hr2 : r < 2 ^ 20) (n : Nat) (h : n < r ^ 300) : f_digits_in [.int n, .int r] = ok (.lst (iN (dg r n).reverse)) := by
  obtain ⟨y, e⟩ := digits_in_loop hr hr2 300 n [] .un h (by simp)
  have e : _ = ok (Out.nx [Sl.val (D.int 0), Sl.val (D.int r), Sl.own (D.lst (iN (dg r n))), y]) := e
  simp only [iN, iD, List.map_nil] at e
  have h0 : 0 ≤ sizeLine := Nat.zero_le _
  have er : iN (dg r n).reverse = (iN (dg r n)).reverse := by simp
  rw [er]
  simp_arith [f_digits_in, b_digits_in, dRev, h0, e]
theorem mem_iN {k : Nat} {ns : List Nat} : ((k : Int) ∈ ns.map fun (j : Nat) => (j : Int)) ↔ k ∈ ns := by
  rw [List.mem_map]
  exact ⟨fun ⟨a, h, e⟩ => by rwa [← Int.ofNat_inj.mp e], fun h => ⟨k, h, rfl⟩⟩
def vr (r : Nat) (ds : List Nat) : Nat := ds.foldr (fun d f => f * r + d) 0
theorem nb_loop (a : Sl) (r : Nat) (hr : r < 2 ^ 20) : ∀ (ds : List Nat) (acc : Nat) (x : Sl), ∃ y, forL (gNm 3) (sSet 2 (dBin addI (dBin mulI (dVar 2) (dVar 1)) (dVar 3))) (iN ds) [a, .val (.int r), .val (.int acc), x] = ok (.nx [a, .val (.int r), .val (.int (ds.foldl (fun f d => f * r + d) acc : Nat)), y])
  | [], acc, x => ⟨x, rfl⟩
  | d :: ds, acc, x => by
    obtain ⟨y, e⟩ := nb_loop a r hr ds (acc * r + d) (.val (.int d))
    have m := fun i : Int => v_mulR (i := i) (j := (r : Int)) (by omega) (by omega)
    have ez : ((acc * r + d : Nat) : Int) = (acc : Int) * r + d := by simp
    refine ⟨y, Eq.trans (forL_cons (s1 := [a, .val (.int r), .val (.int acc), .val (.int d)]) rfl ?_) e⟩
    rw [ez]
    simp_arith [m]
theorem dg_mem (r : Nat) (hr : 2 ≤ r) (n : Nat) : ∀ d ∈ dg r n, d < r := by
  induction n using Nat.strongRecOn with | _ n ih =>
    intro d hd
    by_cases z : n = 0
    · rw [z, dg_zero] at hd
      cases hd
    · rw [dg_pos hr (by omega), List.mem_cons] at hd
      rcases hd with h | h
      · rw [h]
        exact Nat.mod_lt _ (by omega)
      · exact ih (n / r) (Nat.div_lt_self (by omega) (by omega)) d h
end Tf
end
noncomputable section
namespace Tf
open PySem Dt
local macro_rules
  | `(tactic| simp_arith [$ts,*]) => `(tactic| simp only [runP, runF, runI, sSeq, sSet, sRet, sRetF, sRetN, sIf, sAsg, sPar, sPar3, sExpr, sNil, sNever, sPub, sOwn, sApp, sPut, dBin, dVar, dC, dTst, dNot, dAnd, dOr, vAnd, vOr, vNot, dIf, dTup, dLst, aNil, aCons, dCall, dCallU, dCallK, dCallI, dIsi, dOwnIx, gNm, gTp, gsNil, gsCons, iR1, iEn, iLst, dListZip, dRep, ownL, ownD, putL, putD, pubS, bd_ok', v_add, v_sub, v_lt, v_le, v_gt, v_ge, v_is0, v_is1, v_eqI, v_neI, v_isII, v_isBI, List.map_cons, List.map_nil, List.cons_append, List.nil_append, List.append_nil, List.length_cons, List.length_nil, List.replicate, List.getElem?_cons_zero, List.getElem?_cons_succ, List.set_cons_zero, List.set_cons_succ, if_true, if_false, Nat.reduceAdd, Nat.reduceSub, Nat.reduceEqDiff, Bool.false_eq_true, Bool.not_true, Bool.not_false, decide_true, decide_false, and_self, bdC_ok, bdI_ok, bdM_ok, nx_ok, exI_ok, dTupZ, dUnz, D.unz, dCntZ, cntD, dCMethV, dTst, dIsA, dIsiTUE, iaI_int, iaB_int, dNeg, dFld, fldD, dProp, dMake, sFldPut, setF, dDic0, dChain, dOwnFld, sDPut, dOwnDGet, dNinDic, dInDic, kD, dIsiTU, dIsC, isC, inV, ninV, m2, ixT, ixL, dMeth, dMethK, sAugI, dCutT, dCutL, partNo, partAt, dMakeV, dCMeth, dCallV, dMethV, gLs, iTp, iEnT, dView, tView, viewS, D.scal, sSet2, sParM2, sParM3, mOwn, mVal, mNil, iRA, gArgs, gArgsK, sBreak, $ts,*])
theorem e_number_of (r : Nat) (hr : r < 2 ^ 20) (ds : List Nat) : f_number_of [.tup (iN ds.reverse), .int r] = ok (.int (vr r ds)) := by
  obtain ⟨y, e⟩ := nb_loop (.val (.tup (iN ds.reverse))) r hr ds.reverse 0 .un
  rw [List.foldl_reverse] at e
  have e : forL _ _ _ [.val (.tup (iN ds.reverse)), .val (.int r), .val (.int 0), .un] = ok (.nx [.val (.tup (iN ds.reverse)), .val (.int r), .val (.int (vr r ds)), y]) := e
  simp_arith [f_number_of, b_number_of, sFor, e]
theorem e_isint (v lo hi : Int) : f_is_integer [.int v, .int lo, .int hi] = ok (.bl (decide (lo ≤ v ∧ v ≤ hi))) := by
  by_cases h1 : lo ≤ v
  · have e : decide (lo ≤ v ∧ v ≤ hi) = decide (v ≤ hi) := decide_eq_decide.mpr ⟨fun z => z.2, fun z => ⟨h1, z⟩⟩
    rw [e]
    simp_arith [f_is_integer, b_is_integer, h1]
  · have e : decide (lo ≤ v ∧ v ≤ hi) = false := decide_eq_false fun z => h1 z.1
    rw [e]
    simp_arith [f_is_integer, b_is_integer, h1]
theorem e_isint0 (v lo : Int) : f_is_integer [.int v, .int lo, .non] = ok (.bl (decide (lo ≤ v))) := by
  by_cases h1 : lo ≤ v
  · simp_arith [f_is_integer, b_is_integer, h1]
  · simp_arith [f_is_integer, b_is_integer, h1]
/-! objects -/
theorem e_check (n : Nat) : f_check_number [.int n, .int 0, .non] = ok .non := by
  have h : decide ((0 : Int) ≤ n) = true := decide_eq_true (by omega)
  have e := e_isint0 n 0
  rw [h] at e
  simp_arith [f_check_number, b_check_number, e]
theorem e_checkD (n : Nat) (h : n ≤ 2) : f_check_number [.int n, .int 0, .int 2] = ok .non := by
  have h : decide ((0 : Int) ≤ n ∧ (n : Int) ≤ 2) = true := decide_eq_true (by omega)
  have e := e_isint n 0 2
  rw [h] at e
  simp_arith [f_check_number, b_check_number, e]
theorem e_checkN {d : D} (h : f_is_integer [d, .int 0, .int 2] = ok (.bl false)) : ∃ s, f_check_number [d, .int 0, .int 2] = exc ⟨"InvalidNumber", [d]⟩ s := by
  have e : ∃ s, b_check_number [.val d, .val (.int 0), .val (.int 2)] = exc ⟨"InvalidNumber", [d]⟩ s := by
    refine ⟨[.val d, .val (.int 0), .val (.int 2)], ?_⟩
    simp_arith [b_check_number, h, sRaise]
  obtain ⟨s, e⟩ := e
  refine ⟨s, ?_⟩
  show runP 3 b_check_number [d, .int 0, .int 2] = _
  unfold runP
  rw [show ([d, .int 0, .int 2].map Sl.val ++ List.replicate (3 - [d, .int 0, .int 2].length) Sl.un) = [.val d, .val (.int 0), .val (.int 2)] from rfl, e]
  rfl
abbrev TD (n : Nat) : D := .obj "Ternary" [.int n, .tz (iN (dg 3 n).reverse)]
theorem e_init (n : Nat) (h : n < 3 ^ 300) : f_Ternary_init (.obj "Ternary" []) [.int n] = ok (.non, TD n) := by
  have e1 := e_check n
  have e2 : f_digits_in [.int n, .int 3] = ok (.lst (iN (dg 3 n).reverse)) := e_digits_in (r := 3) (by decide) (by decide) n h
  have k1 : (sExpr (dCallU 3 f_check_number [.int 0, .non] (aCons (dVar 1) aNil))) [.io (.obj "Ternary" []), .val (.int n)] = ok (.nx [.io (.obj "Ternary" []), .val (.int n)]) := by
    simp_arith [e1]
  have k2 : (sFldPut 0 "Ternary" 0 (dVar 1)) [.io (.obj "Ternary" []), .val (.int n)] = ok (.nx [.io (.obj "Ternary" [.int n]), .val (.int n)]) := by
    unfold sFldPut
    rw [show dVar 1 [.io (.obj "Ternary" []), .val (.int n)] = ok (.int n, [.io (.obj "Ternary" []), .val (.int n)]) from rfl, bd_ok']
    show (if ("Ternary" : Str) = "Ternary" ∧ 0 ≤ 0 ∧ 0 < 1000 then _ else _) = _
    rw [if_pos ⟨rfl, by decide, by decide⟩]
    rfl
  have f3 : dTupZ (dCallU 2 f_digits_in [] (aCons (dVar 1) (aCons (dC (.int 3)) aNil))) [.io (.obj "Ternary" [.int n]), .val (.int n)] = ok (.tz (iN (dg 3 n).reverse), [.io (.obj "Ternary" [.int n]), .val (.int n)]) := by
    simp_arith [e2]
  have k3 : (sFldPut 0 "Ternary" 1 (dTupZ (dCallU 2 f_digits_in [] (aCons (dVar 1) (aCons (dC (.int 3)) aNil))))) [.io (.obj "Ternary" [.int n]), .val (.int n)] = ok (.nx [.io (TD n), .val (.int n)]) := by
    unfold sFldPut
    rw [f3, bd_ok']
    show (if ("Ternary" : Str) = "Ternary" ∧ 1 ≤ 1 ∧ 1 < 1000 then _ else _) = _
    rw [if_pos ⟨rfl, by decide, by decide⟩]
    rfl
  have x : b_Ternary_init [.io (.obj "Ternary" []), .val (.int n)] = ok (.nx [.io (TD n), .val (.int n)]) := by
    unfold b_Ternary_init
    rw [seq_at k1, seq_at k2, k3]
  show runI 2 b_Ternary_init (.obj "Ternary" []) [.int n] = _
  unfold runI
  rw [show (Sl.io (.obj "Ternary" []) :: ([D.int (n : Int)].map Sl.val ++ List.replicate (2 - ([D.int (n : Int)].length + 1)) Sl.un)) = [.io (.obj "Ternary" []), .val (.int n)] from rfl, x]
  rfl
theorem e_number_p (n : Nat) : f_Ternary_number [TD n] = ok (.int n) := by
  simp_arith [f_Ternary_number, b_Ternary_number]
theorem e_digits_p (n : Nat) : f_Ternary_digits [TD n] = ok (.tup (iN (dg 3 n).reverse)) := by
  simp_arith [f_Ternary_digits, b_Ternary_digits]
theorem ints_iN (ns : List Nat) : ints? (iN ns) = some (ns.map fun (k : Nat) => (k : Int)) := by
  induction ns with
  | nil => rfl
  | cons n ns ih =>
    show ints? (.int n :: iN ns) = _
    unfold ints?
    rw [ih]
    rfl
theorem cnt_iN (ns : List Nat) : (ns.map fun (k : Nat) => (k : Int)).count 1 = ns.count 1 := by
  induction ns with
  | nil => rfl
  | cons n ns ih =>
    rw [List.map_cons, List.count_cons, List.count_cons, ih]
    by_cases h : n = 1
    · subst h
      rfl
    · have h1 : ¬ (n : Int) = 1 := by omega
      rw [beq_eq_false_iff_ne.mpr h1, beq_eq_false_iff_ne.mpr h]
theorem v_cnt (ns : List Nat) : cntD (.lst (iN ns)) (.int 1) = ok (.int (ns.count 1 : Nat)) := by
  unfold cntD
  dsimp only
  rw [ints_iN]
  dsimp only
  rw [cnt_iN]
theorem e_ones_p (n : Nat) : f_Ternary_ones [TD n] = ok (.int ((dg 3 n).reverse.count 1 : Nat)) := by
  have e := v_cnt (dg 3 n).reverse
  have z : b_Ternary_ones [.val (TD n)] = ok (.rt (.int ((dg 3 n).reverse.count 1 : Nat)) [.val (TD n)]) := by
    unfold b_Ternary_ones sRet dCntZ
    rw [show dFld "Ternary" 1 (dVar 0) [.val (TD n)] = ok (.tz (iN (dg 3 n).reverse), [.val (TD n)]) from rfl, bd_ok']
    dsimp only
    rw [show dC (.int 1) [.val (TD n)] = ok (.int 1, [.val (TD n)]) from rfl, bd_ok']
    dsimp only
    rw [e]
    rfl
  show runP 1 b_Ternary_ones [TD n] = _
  unfold runP
  rw [show ([TD n].map Sl.val ++ List.replicate (1 - [TD n].length) Sl.un) = [.val (TD n)] from rfl, z]
  rfl
end Tf
end
noncomputable section
namespace Tf
open PySem Dt
local macro_rules
  | `(tactic| simp_arith [$ts,*]) => `(tactic| simp only [runP, runF, runI, sSeq, sSet, sRet, sRetF, sRetN, sIf, sAsg, sPar, sPar3, sExpr, sNil, sNever, sPub, sOwn, sApp, sPut, dBin, dVar, dC, dTst, dNot, dAnd, dOr, vAnd, vOr, vNot, dIf, dTup, dLst, aNil, aCons, dCall, dCallU, dCallK, dCallI, dIsi, dOwnIx, gNm, gTp, gsNil, gsCons, iR1, iEn, iLst, dListZip, dRep, ownL, ownD, putL, putD, pubS, bd_ok', v_add, v_sub, v_lt, v_le, v_gt, v_ge, v_is0, v_is1, v_eqI, v_neI, v_isII, v_isBI, List.map_cons, List.map_nil, List.cons_append, List.nil_append, List.append_nil, List.length_cons, List.length_nil, List.replicate, List.getElem?_cons_zero, List.getElem?_cons_succ, List.set_cons_zero, List.set_cons_succ, if_true, if_false, Nat.reduceAdd, Nat.reduceSub, Nat.reduceEqDiff, Bool.false_eq_true, Bool.not_true, Bool.not_false, decide_true, decide_false, and_self, bdC_ok, bdI_ok, bdM_ok, nx_ok, exI_ok, dTupZ, dUnz, D.unz, dCntZ, cntD, dCMethV, dTst, dIsA, dIsiTUE, iaI_int, iaB_int, dNeg, dFld, fldD, dProp, dMake, sFldPut, setF, dDic0, dChain, dOwnFld, sDPut, dOwnDGet, dNinDic, dInDic, kD, dIsiTU, dIsC, isC, inV, ninV, m2, ixT, ixL, dMeth, dMethK, sAugI, dCutT, dCutL, partNo, partAt, dMakeV, dCMeth, dCallV, dMethV, gLs, iTp, iEnT, dView, tView, viewS, D.scal, sSet2, sParM2, sParM3, mOwn, mVal, mNil, iRA, gArgs, gArgsK, sBreak, $ts,*])
theorem v_ninAt (k : Nat) (A : List Nat) : ninA (.int k) (.tup (iN A)) = ok (.bl (!decide (k ∈ A))) := by
  have h0 : (iN A).all D.scal = true := List.all_eq_true.mpr fun d hd => by
    obtain ⟨i, _, rfl⟩ := List.mem_map.mp hd
    rfl
  unfold ninA
  dsimp only
  rw [if_pos ⟨rfl, h0⟩, pys_i, D.py, any_i]
  by_cases c : k ∈ A
  · rw [decide_eq_true c, decide_eq_true (mem_iN.mpr c)]
  · rw [decide_eq_false c, decide_eq_false fun z => c (mem_iN.mp z)]
theorem own_obj {c : Str} {g : FnD} {neg : Bool → Bool} {fs gs : List D} {t : Bool} (h : g [.obj c fs, .obj c gs] = ok (.bl t)) : ownQ c g neg (.obj c fs) (.obj c gs) = ok (.bl (neg t)) := by
  unfold ownQ
  dsimp only
  rw [if_pos ⟨rfl, rfl⟩, h, nx_ok, bd_ok']
theorem log_lt {n k : Nat} (hk : 0 < k) (h : n < 2 ^ k) : (n : Int).natAbs.log2 < k := by
  show n.log2 < k
  by_cases z : n = 0
  · rw [z]
    exact hk
  · exact (Nat.log2_lt z).mpr h
def tx (n : Nat) : Str := Str.ofString (toString (n : Int))
theorem tx_all : ∀ n : Nat, n < 1000 → (Str.ofString (toString (n : Int))).length ≤ 5 ∧ ∀ c ∈ (Str.ofString (toString (n : Int))).cps.toList, c < 16 ^ 8 := by decide +kernel
theorem tx_len {n : Nat} (h : n < 1000) : (tx n).length ≤ 5 := (tx_all n h).1
theorem e_str {n : Nat} (h : n < 1000) : strN [.int n] = ok (.str (tx n)) := by
  have l : (n : Int).natAbs.log2 < 1920 := Nat.lt_trans (log_lt (n := n) (k := 10) (by decide) (by omega)) (by decide)
  unfold strN
  dsimp only
  rw [if_pos l]
  rfl
theorem strs_map : ∀ A : List Nat, strs? (A.map fun a => D.str (tx a)) = some (A.map tx)
  | [] => rfl
  | a :: A => by
    rw [List.map_cons, strs?, strs_map A]
    rfl
theorem sum_tx : ∀ A : List Nat, (∀ a ∈ A, a < 1000) → ((A.map tx).map (·.length)).sum ≤ 5 * A.length
  | [], _ => by simp
  | a :: A, h => by
    have q := sum_tx A fun b hb => h b (List.mem_cons_of_mem _ hb)
    have q2 := tx_len (h a List.mem_cons_self)
    rw [List.map_cons, List.map_cons, List.sum_cons, List.length_cons]
    omega
theorem comp_str (v : Nat) (s0 : S) (hs : ∀ x, (s0.set v x).set v .un = s0) (hg : ∀ x, (s0.set v x)[v]? = some x) : ∀ A : List Nat, (∀ a ∈ A, a < 1000) → compL [v] (gNm v) tTrue (dCall strN (aCons (dVar v) aNil)) (iN A) s0 = ok (A.map (fun a => D.str (tx a)), s0)
  | [], _ => rfl
  | a :: A, h => by
    have ih := comp_str v s0 hs hg A fun b hb => h b (List.mem_cons_of_mem _ hb)
    have e := e_str (h a List.mem_cons_self)
    have e2 : dCall strN (aCons (dVar v) aNil) (s0.set v (.val (.int a))) = ok (.str (tx a), s0.set v (.val (.int a))) := by
      have ev : dVar v (s0.set v (.val (.int (a : Int)))) = ok (.int a, s0.set v (.val (.int a))) := by
        unfold dVar
        rw [hg]
      unfold dCall aCons
      rw [ev, bd_ok']
      show bd (bd (ok ([D.int a], s0.set v (.val (.int a)))) _) _ = _
      rw [bd_ok', bd_ok']
      show bd (strN [D.int a]) _ = _
      rw [e, bd_ok']
    show bd (ok (s0.set v (.val (.int a)))) _ = _
    rw [bd_ok']
    show bd (ok (true, s0.set v (.val (.int a)))) _ = _
    rw [bd_ok']
    show bd (dCall strN (aCons (dVar v) aNil) (s0.set v (.val (.int a)))) _ = _
    rw [e2, bd_ok']
    show bd (compL [v] (gNm v) tTrue (dCall strN (aCons (dVar v) aNil)) (iN A) ((s0.set v (.val (.int a))).set v .un)) _ = _
    rw [hs, ih, bd_ok']
    rfl
theorem v_ninLN (k : Nat) (A : List Nat) : ninD (.int k) (.lst (iN A)) = ok (.bl (!decide (k ∈ A))) := by
  have h := v_ninL (k : Int) (A.map fun (j : Nat) => (j : Int))
  have h : ninD (.int k) (.lst (iN A)) = _ := h
  rw [h]
  by_cases c : k ∈ A
  · rw [decide_eq_true c, decide_eq_true (mem_iN.mpr c)]
  · rw [decide_eq_false c, decide_eq_false fun z => c (mem_iN.mp z)]
/-! what the objects tell -/
theorem e_plain_p (n : Nat) : f_Ternary_is_plain [TD n] = ok (.bl (!decide (2 ∈ (dg 3 n).reverse))) := by
  have e := v_ninAt 2 (dg 3 n).reverse
  have e1 : f_are_plain [.tup (iN (dg 3 n).reverse)] = ok (.bl (!decide (2 ∈ (dg 3 n).reverse))) := by
    generalize iN (dg 3 n).reverse = L at e ⊢
    have e : ninA (.int 2) (.tup L) = _ := e
    simp_arith [f_are_plain, b_are_plain, e]
  simp_arith [f_Ternary_is_plain, b_Ternary_is_plain, e1]
def TX (n : Nat) : Str := if n = 0 then "0" else Txt.join "" ((dg 3 n).reverse.map tx)
theorem e0_len : (("" : Str)).length = 0 := by decide +kernel
theorem jo {A : List Nat} (h : ∀ a ∈ A, a < 1000) (hl : A.length ≤ 300) : joinD (.str "") (.lst (A.map fun a => D.str (tx a))) = ok (.str (Txt.join "" (A.map tx))) := by
  unfold joinD
  dsimp only
  rw [strs_map A]
  dsimp only
  rw [if_pos]
  have q1 := sum_tx A h
  have q2 : (A.map tx).length = A.length := List.length_map _
  rw [e0_len, q2]
  omega
theorem dgs {n : Nat} (h : n < 3 ^ 300) : (∀ a ∈ (dg 3 n).reverse, a < 1000) ∧ (dg 3 n).reverse.length ≤ 300 := by
  refine ⟨fun a ha => ?_, ?_⟩
  · have := dg_mem 3 (by decide) n a (List.mem_reverse.mp ha)
    omega
  · rw [List.length_reverse]
    exact dg_len (by decide) 300 n h
theorem sz300 {A : List Nat} (h : A.length ≤ 300) : (iN A).length ≤ sizeLine := by
  rw [List.length_map, List.length_map]
  show _ ≤ 2 ^ 24
  omega
theorem e_str_p {n : Nat} (h : n < 3 ^ 300) : f_Ternary_str [TD n] = ok (.str (TX n)) := by
  obtain ⟨h1, h2⟩ := dgs h
  show runP 2 b_Ternary_str [TD n] = _
  have z : b_Ternary_str [.val (TD n), .un] = ok (.rt (.str (TX n)) [.val (TD n), .un]) := by
    unfold b_Ternary_str TX
    by_cases c : n = 0
    · subst c
      rw [if_pos rfl]
      rfl
    · rw [if_neg c]
      have c' : ¬ (n : Int) = 0 := by omega
      have k1 : (sIf (dTst (dBin eqD (dFld "Ternary" 0 (dVar 0)) (dC (.int 0)))) (sRet (dC (.str "0"))) sNil) [.val (TD n), .un] = ok (.nx [.val (TD n), .un]) := by
        simp_arith [c']
      rw [seq_at k1]
      have cm := comp_str 1 [.val (TD n), .un] (fun _ => rfl) (fun _ => rfl) (dg 3 n).reverse h1
      have sz := sz300 h2
      have k0 : dComp (iTp (dUnz (dFld "Ternary" 1 (dVar 0)))) [1] (gNm 1) tTrue (dCall strN (aCons (dVar 1) aNil)) [.val (TD n), .un] = ok (.lst ((dg 3 n).reverse.map (fun a => D.str (tx a))), [.val (TD n), .un]) := by
        unfold dComp
        rw [show iTp (dUnz (dFld "Ternary" 1 (dVar 0))) [.val (TD n), .un] = ok (iN (dg 3 n).reverse, [.val (TD n), .un]) from rfl, bd_ok', if_pos sz]
        show bd (nx (compL [1] _ _ _ _ [.val (TD n), .un])) _ = _
        rw [cm, nx_ok, bd_ok']
        rfl
      have j := jo h1 h2
      generalize dComp (iTp (dUnz (dFld "Ternary" 1 (dVar 0)))) [1] (gNm 1) tTrue (dCall strN (aCons (dVar 1) aNil)) = F at k0 ⊢
      generalize (D.lst ((dg 3 n).reverse.map fun a => D.str (tx a))) = L at j k0 ⊢
      simp_arith [dJoin, k0, j]
  unfold runP
  rw [show ([TD n].map Sl.val ++ List.replicate (2 - [TD n].length) Sl.un) = [.val (TD n), .un] from rfl, z]
  rfl
abbrev tyT : List (String × Bool) := [("NoneType", false), ("bool", false), ("int", false), ("str", false), ("list", false), ("tuple", false), ("dict", false)]
theorem e_eq_p (m n : Nat) : f_Ternary_eq [TD m, TD n] = ok (.bl (decide (m = n))) := by
  have e1 : isA [("Ternary", true)] tyT (TD n) = ok (.bl true) := rfl
  have e2 : decide ((m : Int) = n) = decide (m = n) := decide_eq_decide.mpr (by omega)
  generalize hm : TD m = a at *
  generalize hn : TD n = b at *
  have f1 : fldD "Ternary" 0 a = ok (.int m) := by
    subst hm
    rfl
  have f2 : fldD "Ternary" 0 b = ok (.int n) := by
    subst hn
    rfl
  have e3 : eqD (.int m) (.int n) = ok (.bl (decide (m = n))) := by
    rw [← e2]
    exact v_eqI m n
  have x : b_Ternary_eq [.val a, .val b] = ok (.rt (.bl (decide (m = n))) [.val a, .val b]) := by
    unfold b_Ternary_eq sRet vAnd dIsA dBin dFld dVar
    simp only [List.getElem?_cons_zero, List.getElem?_cons_succ, bd_ok', e1, f1, f2, e3, nx_ok]
    rfl
  show runP 2 b_Ternary_eq [a, b] = _
  unfold runP
  rw [show ([a, b].map Sl.val ++ List.replicate (2 - [a, b].length) Sl.un) = [.val a, .val b] from rfl, x]
  rfl
theorem own_t (neg : Bool → Bool) (m n : Nat) : ownQ "Ternary" f_Ternary_eq neg (TD m) (TD n) = ok (.bl (neg (decide (m = n)))) := own_obj (e_eq_p m n)
theorem own_i (m : Nat) (i : Int) : ownVQ "Ternary" f_Ternary_eq (TD m) (.int i) = ok (.bl false) := rfl
theorem own_s (m : Nat) (t : Str) : ownVQ "Ternary" f_Ternary_eq (TD m) (.str t) = ok (.bl false) := rfl
theorem own_tp (m : Nat) (xs : List D) : ownTQ "Ternary" f_Ternary_eq_T (TD m) (.tup xs) = ok (.bl false) := rfl
end Tf
end
noncomputable section
namespace Tf
open PySem Dt
local macro_rules
  | `(tactic| simp_arith [$ts,*]) => `(tactic| simp only [runP, runF, runI, sSeq, sSet, sRet, sRetF, sRetN, sIf, sAsg, sPar, sPar3, sExpr, sNil, sNever, sPub, sOwn, sApp, sPut, dBin, dVar, dC, dTst, dNot, dAnd, dOr, vAnd, vOr, vNot, dIf, dTup, dLst, aNil, aCons, dCall, dCallU, dCallK, dCallI, dIsi, dOwnIx, gNm, gTp, gsNil, gsCons, iR1, iEn, iLst, dListZip, dRep, ownL, ownD, putL, putD, pubS, bd_ok', v_add, v_sub, v_lt, v_le, v_gt, v_ge, v_is0, v_is1, v_eqI, v_neI, v_isII, v_isBI, List.map_cons, List.map_nil, List.cons_append, List.nil_append, List.append_nil, List.length_cons, List.length_nil, List.replicate, List.getElem?_cons_zero, List.getElem?_cons_succ, List.set_cons_zero, List.set_cons_succ, if_true, if_false, Nat.reduceAdd, Nat.reduceSub, Nat.reduceEqDiff, Bool.false_eq_true, Bool.not_true, Bool.not_false, decide_true, decide_false, and_self, bdC_ok, bdI_ok, bdM_ok, nx_ok, exI_ok, dTupZ, dUnz, D.unz, dCntZ, dCMethV, dTst, dIsA, dIsiTUE, iaI_int, iaB_int, dNeg, dFld, fldD, dProp, dMake, sFldPut, setF, dDic0, dChain, dOwnFld, sDPut, dOwnDGet, dNinDic, dInDic, kD, dIsiTU, dIsC, isC, inV, ninV, m2, ixT, ixL, dMeth, dMethK, sAugI, dCutT, dCutL, partNo, partAt, dMakeV, dCMeth, dCallV, dMethV, gLs, iTp, iEnT, dView, tView, viewS, D.scal, sSet2, sParM2, sParM3, mOwn, mVal, mNil, iRA, gArgs, gArgsK, sBreak, $ts,*])
theorem show_i : ∀ ns : List Int, (∀ n ∈ ns, n.natAbs.log2 < 1920) → PyData.showableAll (ns.map PyData.int) = true ∧ PyData.leavesShortAll 1921 (ns.map PyData.int) = true ∧ PyData.weightAll (ns.map PyData.int) ≤ 2000 * ns.length
  | [], _ => ⟨rfl, rfl, Nat.le_refl _⟩
  | n :: ns, h => by
    obtain ⟨h1, h2, h5⟩ := show_i ns fun q hq => h q (List.mem_cons_of_mem _ hq)
    have h3 := h n (List.mem_cons_self ..)
    have s1 : decide ((PyData.shown (.int n)).length ≤ 1921) = true := decide_eq_true (by rw [PyData.shown]; exact PyProof.Rows.int_text_len_1921 h3)
    have w1 : PyData.weight (.int n) ≤ 1920 := by
      rw [PyData.weight]
      split <;> omega
    refine ⟨?_, ?_, ?_⟩
    · show (decide (n.natAbs.log2 < 1920) && PyData.showableAll (ns.map PyData.int)) = true
      rw [decide_eq_true h3, h1]
      rfl
    · show (decide ((PyData.shown (.int n)).length ≤ 1921) && PyData.leavesShortAll 1921 (ns.map PyData.int)) = true
      rw [s1, h2]
      rfl
    · show PyData.weight (.int n) + 1 + PyData.weightAll (ns.map PyData.int) ≤ _
      rw [List.length_cons]
      omega
theorem neSS (x : Str) : neS (.str x) (.str x) = ok (.bl false) := by
  rw [v_neS, decide_eq_true rfl]
  rfl
theorem eqSS (x : Str) : eqS (.str x) (.str x) = ok (.bl true) := by
  rw [v_eqS, decide_eq_true rfl]
theorem bulk_i : ∀ ns : List Int, PyData.bulkAll (ns.map PyData.int) = ns.length
  | [] => rfl
  | n :: ns => by
    show PyData.bulk (.int n) + 1 + PyData.bulkAll (ns.map PyData.int) = _
    rw [bulk_i ns, List.length_cons]
    show 0 + 1 + ns.length = _
    omega
theorem show1 {n : Int} (h : n.natAbs.log2 < 1920) : decide ((PyData.shown (.int n)).length ≤ 1921) = true := decide_eq_true (by rw [PyData.shown]; exact PyProof.Rows.int_text_len_1921 h)
/-- repr of a list of one int, ints as a tuple, an int, a bool -/
theorem repr_o {n : Int} {ns : List Int} {o : Int} (b : Bool) (hn : n.natAbs.log2 < 1920) (ho : o.natAbs.log2 < 1920) (h : ∀ k ∈ ns, k.natAbs.log2 < 1920) (hl : ns.length ≤ 300) : ∃ t, reprN [.lst [.int n, .tup (iD ns), .int o, .bl b]] = ok (.str t) := by
  obtain ⟨h1, h2, h3⟩ := show_i ns h
  have h4 := depth_i ns
  have py : D.py (.lst [.int n, .tup (iD ns), .int o, .bl b]) = .list [.int n, .tuple (ns.map PyData.int), .int o, .bool b] := by
    simp only [D.py, D.pys, pys_i]
  refine ⟨(D.py (.lst [.int n, .tup (iD ns), .int o, .bl b])).shown, ?_⟩
  unfold reprN
  dsimp only
  rw [if_pos]
  rw [py]
  have lv : PyData.leavesShort 1921 (.list [.int n, .tuple (ns.map PyData.int), .int o, .bool b]) = true := by
    show (decide ((PyData.shown (.int n)).length ≤ 1921) && (PyData.leavesShortAll 1921 (ns.map PyData.int) && (decide ((PyData.shown (.int o)).length ≤ 1921) && (true && true)))) = true
    rw [show1 hn, show1 ho, h2]
    rfl
  have h5 := PyData.shown_le_bulk 1921 (by decide) _ lv
  have h6 : PyData.bulk (.list [.int n, .tuple (ns.map PyData.int), .int o, .bool b]) = ns.length + 4 := by
    show 0 + 1 + (PyData.bulkAll (ns.map PyData.int) + 1 + (0 + 1 + (0 + 1 + 0))) = _
    rw [bulk_i]
    omega
  rw [h6] at h5
  refine ⟨?_, ?_, ?_, ?_⟩
  · show (true && ((D.plains (iD ns)) && (true && (true && true)))) = true
    rw [plains_i]
    rfl
  · show (decide (n.natAbs.log2 < 1920) && (PyData.showableAll (ns.map PyData.int) && (decide (o.natAbs.log2 < 1920) && (true && true)))) = true
    rw [decide_eq_true hn, decide_eq_true ho, h1]
    rfl
  · simp only [PyData.depth, PyData.depthAll, h4]
    decide
  · show _ ≤ 2 ^ 24
    have h7 : (1921 + 2) * (ns.length + 4) ≤ 1923 * 304 := Nat.mul_le_mul (by omega) (by omega)
    omega
/-! one number -/
theorem e_make {fr : S → M (List D × S)} {s s' : S} {n : Nat} (h : fr s = ok ([.int n], s')) (hn : n < 3 ^ 300) : dMake "Ternary" 2 f_Ternary_init [] fr s = ok (TD n, s') := by
  unfold dMake
  rw [h, bd_ok']
  dsimp only
  show (if 1 + 1 = 2 then bdM (f_Ternary_init (.obj "Ternary" []) [.int n]) s' else none) = _
  rw [if_pos rfl, e_init n hn]
  rfl
theorem lgs {n : Nat} (h : n < 3 ^ 126) : (n : Int).natAbs.log2 < 1920 := Nat.lt_trans (log_lt (n := n) (k := 250) (by decide) (Nat.lt_of_lt_of_le h (by decide))) (by decide)
theorem lgd {n : Nat} (h : n ≤ 1000) : (n : Int).natAbs.log2 < 1920 := Nat.lt_trans (log_lt (n := n) (k := 10) (by decide) (by omega)) (by decide)
theorem e_right {n : Nat} (hn : n < 3 ^ 126) : f__law_object_right [.int n] = ok (.bl true) := by
  have h3 : (3 : Nat) ^ 126 < 3 ^ 300 := Nat.pow_lt_pow_right (by decide) (by decide)
  have hb : n < 3 ^ 300 := by omega
  have hb1 : n + 1 < 3 ^ 300 := by omega
  obtain ⟨d1, d2⟩ := dgs hb
  have e0 : f__law_digits [.int n, .int 3] = ok (.lst (iN (dg 3 n))) := e_digits (r := 3) (by decide) (by decide) n hb
  have ep := e_plain_p n
  have eo := e_ones_p n
  have er := v_ninLN 2 (dg 3 n).reverse
  have ec := v_cnt (dg 3 n).reverse
  have es := e_str_p hb
  have rv : (iN (dg 3 n)).reverse = iN (dg 3 n).reverse := by
    show (List.map D.int (List.map (fun (k : Nat) => (k : Int)) (dg 3 n))).reverse = List.map D.int (List.map (fun (k : Nat) => (k : Int)) (dg 3 n).reverse)
    rw [List.map_reverse, List.map_reverse]
  have hcnt : (dg 3 n).reverse.count 1 ≤ 300 := Nat.le_trans List.count_le_length d2
  obtain ⟨t, et⟩ : ∃ t, reprN [.lst [.int n, .tup (iN (dg 3 n).reverse), .int ((dg 3 n).reverse.count 1 : Nat), .bl (!decide (2 ∈ (dg 3 n).reverse))]] = ok (.str t) := by
    have := repr_o (n := n) (ns := (dg 3 n).reverse.map fun (k : Nat) => (k : Int)) (o := ((dg 3 n).reverse.count 1 : Nat)) (!decide (2 ∈ (dg 3 n).reverse)) (lgs hn) (lgd (by omega)) (fun k hk => by
      obtain ⟨j, hj, rfl⟩ := List.mem_map.mp hk
      exact lgd (by have := d1 j hj; omega)) (by rw [List.length_map]; exact d2)
    exact this
  have ej := jo d1 d2
  have q1 := own_t id n n
  have q2 := own_t (!·) n n
  have q3 := own_t id n (n + 1)
  have q4 := own_t (!·) (n + 1) n
  rw [decide_eq_true rfl] at q1 q2
  rw [decide_eq_false (show ¬ n = n + 1 by omega)] at q3
  rw [decide_eq_false (show ¬ n + 1 = n by omega)] at q4
  have en := e_number_p n
  have ed := e_digits_p n
  generalize hT : TD n = T at *
  generalize hU : TD (n + 1) = U at *
  have hobj : ∃ fs, T = .obj "Ternary" fs := ⟨_, hT.symm⟩
  have mkT : ∀ {fr : S → M (List D × S)} {s s' : S}, fr s = ok ([.int n], s') → dMake "Ternary" 2 f_Ternary_init [] fr s = ok (T, s') := fun h => hT ▸ e_make h hb
  have mkU : ∀ {fr : S → M (List D × S)} {s s' : S}, fr s = ok ([.int (n + 1)], s') → dMake "Ternary" 2 f_Ternary_init [] fr s = ok (U, s') := fun h => hU ▸ e_make (n := n + 1) h hb1
  have es1 : strO "Ternary" f_Ternary_str [T] = ok (.str (TX n)) := by
    obtain ⟨fs, rfl⟩ := hobj
    unfold strO
    dsimp only
    rw [if_pos rfl, es]
    rfl
  have pr : ∀ (g : FnD) (r : D) (s : S) (i : Nat), s[i]? = some (.val T) → g [T] = ok r → dProp "Ternary" g (dVar i) s = ok (r, s) := fun g r s i h1 h2 => by
    obtain ⟨fs, rfl⟩ := hobj
    unfold dProp dVar
    rw [h1, bd_ok']
    dsimp only
    rw [if_pos rfl, h2]
    rfl
  have qi : ∀ i : Int, ownVQ "Ternary" f_Ternary_eq T (.int i) = ok (.bl false) := fun i => hT ▸ own_i n i
  have qs : ∀ x : Str, ownVQ "Ternary" f_Ternary_eq T (.str x) = ok (.bl false) := fun x => hT ▸ own_s n x
  have qt : ∀ xs : List D, ownTQ "Ternary" f_Ternary_eq_T T (.tup xs) = ok (.bl false) := fun xs => hT ▸ own_tp n xs
  have sz := sz300 d2
  have cm := comp_str 6 [.val (.int n), .val (.lst (iN (dg 3 n).reverse)), .val T, .val T, .val (.lst [.int n, .tup (iN (dg 3 n).reverse), .int ((dg 3 n).reverse.count 1 : Nat), .bl (!decide (2 ∈ (dg 3 n).reverse))]), .un, .un] (fun _ => rfl) (fun _ => rfl) (dg 3 n).reverse d1
  have s4 : 0 + 1 + 1 + 1 + 1 ≤ sizeLine := by
    show 4 ≤ 2 ^ 24
    decide
  have k1 : (sSet 1 (dRev (dCallU 2 f__law_digits [] (aCons (dVar 0) (aCons (dC (.int 3)) aNil))))) [.val (.int n), .un, .un, .un, .un, .un, .un] = ok (.nx [.val (.int n), .val (.lst (iN (dg 3 n).reverse)), .un, .un, .un, .un, .un]) := by
    simp_arith [dRev, e0, rv]
  have ht : TX n = if n = 0 then ("0" : Str) else Txt.join "" ((dg 3 n).reverse.map tx) := rfl
  generalize hX : TX n = XT at *
  generalize hL : iN (dg 3 n).reverse = L at *
  generalize hC : ((dg 3 n).reverse.count 1 : Nat) = C at *
  generalize hP : (!decide (2 ∈ (dg 3 n).reverse)) = P at *
  generalize hA : ((dg 3 n).reverse.map fun a => D.str (tx a)) = A at *
  have k2 : (sPar 2 3 (aCons (dMake "Ternary" 2 f_Ternary_init [] (aCons (dVar 0) aNil)) (aCons (dMake "Ternary" 2 f_Ternary_init [] (aCons (dVar 0) aNil)) aNil))) [.val (.int n), .val (.lst L), .un, .un, .un, .un, .un] = ok (.nx [.val (.int n), .val (.lst L), .val T, .val T, .un, .un, .un]) := by
    have a1 := mkT (fr := aCons (dVar 0) aNil) (s := [.val (.int n), .val (.lst L), .un, .un, .un, .un, .un]) (s' := [.val (.int n), .val (.lst L), .un, .un, .un, .un, .un]) rfl
    generalize dMake "Ternary" 2 f_Ternary_init [] (aCons (dVar 0) aNil) = F at a1 ⊢
    simp_arith [a1]
  have k3 : (sSet 4 (dLst (aCons (dProp "Ternary" f_Ternary_number (dVar 2)) (aCons (dProp "Ternary" f_Ternary_digits (dVar 2)) (aCons (dProp "Ternary" f_Ternary_ones (dVar 2)) (aCons (dProp "Ternary" f_Ternary_is_plain (dVar 2)) aNil)))))) [.val (.int n), .val (.lst L), .val T, .val T, .un, .un, .un] = ok (.nx [.val (.int n), .val (.lst L), .val T, .val T, .val (.lst [.int n, .tup L, .int C, .bl P]), .un, .un]) := by
    have b1 := pr _ _ [.val (.int n), .val (.lst L), .val T, .val T, .un, .un, .un] 2 rfl en
    have b2 := pr _ _ [.val (.int n), .val (.lst L), .val T, .val T, .un, .un, .un] 2 rfl ed
    have b3 := pr _ _ [.val (.int n), .val (.lst L), .val T, .val T, .un, .un, .un] 2 rfl eo
    have b4 := pr _ _ [.val (.int n), .val (.lst L), .val T, .val T, .un, .un, .un] 2 rfl ep
    generalize dProp "Ternary" f_Ternary_number (dVar 2) = F1 at b1 ⊢
    generalize dProp "Ternary" f_Ternary_digits (dVar 2) = F2 at b2 ⊢
    generalize dProp "Ternary" f_Ternary_ones (dVar 2) = F3 at b3 ⊢
    generalize dProp "Ternary" f_Ternary_is_plain (dVar 2) = F4 at b4 ⊢
    simp_arith [b1, b2, b3, b4, s4]
  have k4 : (sIf (dTst (dBin neS (dCall reprN (aCons (dVar 4) aNil)) (dCall reprN (aCons (dLst (aCons (dVar 0) (aCons (dCall tupleN (aCons (dVar 1) aNil)) (aCons (dCnt (dVar 1) (dC (.int 1))) (aCons (dBin ninD (dC (.int 2)) (dVar 1)) aNil))))) aNil)))) (sRet (dC (.bl false))) sNil) [.val (.int n), .val (.lst L), .val T, .val T, .val (.lst [.int n, .tup L, .int C, .bl P]), .un, .un] = ok (.nx [.val (.int n), .val (.lst L), .val T, .val T, .val (.lst [.int n, .tup L, .int C, .bl P]), .un, .un]) := by
    have er : ninD (.int 2) (.lst L) = ok (.bl P) := er
    have qq := neSS t
    simp_arith [dCnt, tupleN, et, er, ec, qq, s4]
  have k5 : (sSet 5 (dIf (dTst (dBin gtI (dVar 0) (dC (.int 0)))) (dJoin (dC (.str "")) (dComp (iLst (dVar 1)) [6] (gNm 6) tTrue (dCall strN (aCons (dVar 6) aNil)))) (dC (.str "0")))) [.val (.int n), .val (.lst L), .val T, .val T, .val (.lst [.int n, .tup L, .int C, .bl P]), .un, .un] = ok (.nx [.val (.int n), .val (.lst L), .val T, .val T, .val (.lst [.int n, .tup L, .int C, .bl P]), .val (.str XT), .un]) := by
    have k0 : dComp (iLst (dVar 1)) [6] (gNm 6) tTrue (dCall strN (aCons (dVar 6) aNil)) [.val (.int n), .val (.lst L), .val T, .val T, .val (.lst [.int n, .tup L, .int C, .bl P]), .un, .un] = ok (.lst A, [.val (.int n), .val (.lst L), .val T, .val T, .val (.lst [.int n, .tup L, .int C, .bl P]), .un, .un]) := by
      unfold dComp
      rw [show iLst (dVar 1) [.val (.int n), .val (.lst L), .val T, .val T, .val (.lst [.int n, .tup L, .int C, .bl P]), .un, .un] = ok (L, [.val (.int n), .val (.lst L), .val T, .val T, .val (.lst [.int n, .tup L, .int C, .bl P]), .un, .un]) from rfl, bd_ok', if_pos sz]
      show bd (nx (compL [6] _ _ _ _ [.val (.int n), .val (.lst L), .val T, .val T, .val (.lst [.int n, .tup L, .int C, .bl P]), .un, .un])) _ = _
      rw [cm, nx_ok, bd_ok']
      rfl
    generalize dComp (iLst (dVar 1)) [6] (gNm 6) tTrue (dCall strN (aCons (dVar 6) aNil)) = F at k0 ⊢
    by_cases c : n = 0
    · have c1 : ¬ (0 : Int) < n := by omega
      rw [if_pos c] at ht
      subst ht
      simp_arith [c1]
    · have c1 : (0 : Int) < n := by omega
      rw [if_neg c] at ht
      rw [← ht] at ej
      simp_arith [dJoin, c1, k0, ej]
  generalize (D.lst [.int n, .tup L, .int C, .bl P]) = LL at *
  have k6 : (sIf (dOr (dTst (dBin neS (dCall (strO "Ternary" f_Ternary_str) (aCons (dVar 2) aNil)) (dVar 5))) (dOr (dNot (dTst (dBin (ownQ "Ternary" f_Ternary_eq id) (dVar 2) (dVar 3)))) (dTst (dBin (ownQ "Ternary" f_Ternary_eq (!·)) (dVar 2) (dVar 3))))) (sRet (dC (.bl false))) sNil) [.val (.int n), .val (.lst L), .val T, .val T, .val LL, .val (.str XT), .un] = ok (.nx [.val (.int n), .val (.lst L), .val T, .val T, .val LL, .val (.str XT), .un]) := by
    have qq := neSS XT
    simp_arith [es1, qq, q1, q2, id]
  have k7 : (sIf (dOr (dTst (dBin (ownQ "Ternary" f_Ternary_eq id) (dVar 2) (dMake "Ternary" 2 f_Ternary_init [] (aCons (dBin addI (dVar 0) (dC (.int 1))) aNil)))) (dOr (dTst (dBin (ownVQ "Ternary" f_Ternary_eq) (dVar 2) (dVar 0))) (dOr (dTst (dBin (ownTQ "Ternary" f_Ternary_eq_T) (dVar 2) (dCall tupleN (aCons (dVar 1) aNil)))) (dTst (dBin (ownVQ "Ternary" f_Ternary_eq) (dVar 2) (dVar 5)))))) (sRet (dC (.bl false))) sNil) [.val (.int n), .val (.lst L), .val T, .val T, .val LL, .val (.str XT), .un] = ok (.nx [.val (.int n), .val (.lst L), .val T, .val T, .val LL, .val (.str XT), .un]) := by
    have a1 := mkU (fr := aCons (dBin addI (dVar 0) (dC (.int 1))) aNil) (s := [.val (.int n), .val (.lst L), .val T, .val T, .val LL, .val (.str XT), .un]) (s' := [.val (.int n), .val (.lst L), .val T, .val T, .val LL, .val (.str XT), .un]) rfl
    have qi := qi n
    have qs := qs XT
    have qt := qt L
    generalize dMake "Ternary" 2 f_Ternary_init [] (aCons (dBin addI (dVar 0) (dC (.int 1))) aNil) = F at a1 ⊢
    simp_arith [tupleN, a1, qi, qs, qt, q3, id]
  have k8 : (sRet (dBin (ownQ "Ternary" f_Ternary_eq (!·)) (dMake "Ternary" 2 f_Ternary_init [] (aCons (dBin addI (dVar 0) (dC (.int 1))) aNil)) (dVar 2))) [.val (.int n), .val (.lst L), .val T, .val T, .val LL, .val (.str XT), .un] = ok (.rt (.bl true) [.val (.int n), .val (.lst L), .val T, .val T, .val LL, .val (.str XT), .un]) := by
    have a1 := mkU (fr := aCons (dBin addI (dVar 0) (dC (.int 1))) aNil) (s := [.val (.int n), .val (.lst L), .val T, .val T, .val LL, .val (.str XT), .un]) (s' := [.val (.int n), .val (.lst L), .val T, .val T, .val LL, .val (.str XT), .un]) rfl
    generalize dMake "Ternary" 2 f_Ternary_init [] (aCons (dBin addI (dVar 0) (dC (.int 1))) aNil) = F at a1 ⊢
    simp_arith [a1, q4]
  have x : b__law_object_right [.val (.int n), .un, .un, .un, .un, .un, .un] = ok (.rt (.bl true) [.val (.int n), .val (.lst L), .val T, .val T, .val LL, .val (.str XT), .un]) := by
    unfold b__law_object_right
    rw [seq_at k1, seq_at k2, seq_at k3, seq_at k4, seq_at k5, seq_at k6, seq_at k7, k8]
  show runP 7 b__law_object_right [.int n] = _
  unfold runP
  rw [show ([D.int (n : Int)].map Sl.val ++ List.replicate (7 - [D.int (n : Int)].length) Sl.un) = [.val (.int n), .un, .un, .un, .un, .un, .un] from rfl, x]
  rfl
end Tf
end
noncomputable section
namespace Tf
open PySem Dt
local macro_rules
  | `(tactic| simp_arith [$ts,*]) => `(tactic| simp only [runP, runF, runI, sSeq, sSet, sRet, sRetF, sRetN, sIf, sAsg, sPar, sPar3, sExpr, sNil, sNever, sPub, sOwn, sApp, sPut, dBin, dVar, dC, dTst, dNot, dAnd, dOr, vAnd, vOr, vNot, dIf, dTup, dLst, aNil, aCons, dCall, dCallU, dCallK, dCallI, dIsi, dOwnIx, gNm, gTp, gsNil, gsCons, iR1, iEn, iLst, dListZip, dRep, ownL, ownD, putL, putD, pubS, bd_ok', v_add, v_sub, v_lt, v_le, v_gt, v_ge, v_is0, v_is1, v_eqI, v_neI, v_isII, v_isBI, List.map_cons, List.map_nil, List.cons_append, List.nil_append, List.append_nil, List.length_cons, List.length_nil, List.replicate, List.getElem?_cons_zero, List.getElem?_cons_succ, List.set_cons_zero, List.set_cons_succ, if_true, if_false, Nat.reduceAdd, Nat.reduceSub, Nat.reduceEqDiff, Bool.false_eq_true, Bool.not_true, Bool.not_false, decide_true, decide_false, and_self, bdC_ok, bdI_ok, bdM_ok, nx_ok, exI_ok, dTupZ, dUnz, D.unz, dCntZ, dCMethV, dTst, dIsA, dIsiTUE, iaI_int, iaB_int, dNeg, dFld, fldD, dProp, dMake, sFldPut, setF, dDic0, dChain, dOwnFld, sDPut, dOwnDGet, dNinDic, dInDic, kD, dIsiTU, dIsC, isC, inV, ninV, m2, ixT, ixL, dMeth, dMethK, sAugI, dCutT, dCutL, partNo, partAt, dMakeV, dCMeth, dCallV, dMethV, gLs, iTp, iEnT, dView, tView, viewS, D.scal, sSet2, sParM2, sParM3, mOwn, mVal, mNil, iRA, gArgs, gArgsK, sBreak, $ts,*])
theorem cut_take (xs : List D) (k : Nat) : cutD xs none (some (k : Int)) = xs.take k := by
  unfold cutD
  rw [HT.sIx_none, HT.sIx_nat, List.drop_zero, Nat.sub_zero, ← List.take_eq_take_min]
theorem shaped_t (ns : List Int) : SeqAt.shaped (.tuple (ns.map PyData.int)) = true := by
  unfold SeqAt.shaped
  rw [PyData.canLay0, lay_i, PyData.depth, depth_i]
  rfl
theorem v_eqTL (ps qs : List Int) : eqD (.tup (iD ps)) (.tup (iD qs)) = ok (.bl (decide (ps = qs))) := by
  unfold eqD
  rw [D.plain, D.plain, plains_i, plains_i, D.py, D.py, pys_i, pys_i, shaped_t, shaped_t, PyData.eqv, eqvAll_i]
  rfl
theorem v_neTT (A : List Nat) : neD (.tup (iN A)) (.tup (iN A)) = ok (.bl false) := by
  have h := v_eqTL (A.map fun (j : Nat) => (j : Int)) (A.map fun (j : Nat) => (j : Int))
  rw [decide_eq_true rfl] at h
  unfold eqD at h
  unfold neD
  split at h
  · next c =>
    rw [if_pos c]
    have h : some (Rs.ok (D.bl _)) = some (Rs.ok (D.bl _)) := h
    have h := D.bl.inj (Rs.ok.inj (Option.some.inj h))
    rw [h]
    rfl
  · cases h
theorem fd_loop (a b : Sl) : ∀ (ks : List Nat) (x : Sl), (∀ k ∈ ks, k ≤ 2) → ∃ y, forL (gNm 2) (sExpr (dCallU 3 f_check_number [] (aCons (dVar 2) (aCons (dC (.int 0)) (aCons (dC (.int 2)) aNil))))) (iN ks) [a, b, x] = ok (.nx [a, b, y])
  | [], x, _ => ⟨x, rfl⟩
  | k :: ks, x, h => by
    obtain ⟨y, e⟩ := fd_loop a b ks (.val (.int k)) fun j hj => h j (List.mem_cons_of_mem _ hj)
    have c := e_checkD k (h k List.mem_cons_self)
    refine ⟨y, Eq.trans (forL_cons (s1 := [a, b, .val (.int k)]) rfl ?_) e⟩
    simp_arith [c]
theorem vr_lt : ∀ ds : List Nat, (∀ d ∈ ds, d ≤ 2) → vr 3 ds < 3 ^ ds.length
  | [], _ => by decide
  | d :: ds, h => by
    have q := vr_lt ds fun b hb => h b (List.mem_cons_of_mem _ hb)
    have q2 := h d List.mem_cons_self
    show vr 3 ds * 3 + d < _
    rw [List.length_cons, Nat.pow_succ]
    omega
theorem e_fd (ds : List Nat) (h : ∀ d ∈ ds, d ≤ 2) (hl : ds.length ≤ 20) : f_Ternary_from_digits [.cls "Ternary", .tup (iN ds.reverse)] = ok (TD (vr 3 ds)) := by
  have hv : vr 3 ds < 3 ^ 300 := Nat.lt_of_lt_of_le (vr_lt ds h) (Nat.pow_le_pow_right (by decide) (by omega))
  have e1 := e_number_of 3 (by decide) ds
  obtain ⟨y, e2⟩ := fd_loop (.val (.cls "Ternary")) (.val (.tup (iN ds.reverse))) ds.reverse .un fun k hk => h k (List.mem_reverse.mp hk)
  have k1 : (sFor (iTp (dVar 1)) (gNm 2) (sExpr (dCallU 3 f_check_number [] (aCons (dVar 2) (aCons (dC (.int 0)) (aCons (dC (.int 2)) aNil)))))) [.val (.cls "Ternary"), .val (.tup (iN ds.reverse)), .un] = ok (.nx [.val (.cls "Ternary"), .val (.tup (iN ds.reverse)), y]) := by
    generalize iN ds.reverse = L at e2 ⊢
    unfold sFor
    rw [show iTp (dVar 1) [.val (.cls "Ternary"), .val (.tup L), .un] = ok (L, [.val (.cls "Ternary"), .val (.tup L), .un]) from rfl, bd_ok']
    exact e2
  have k2 : sRet (dMakeV 0 "Ternary" 2 f_Ternary_init [] (aCons (dCallU 2 f_number_of [] (aCons (dVar 1) (aCons (dC (.int 3)) aNil))) aNil)) [.val (.cls "Ternary"), .val (.tup (iN ds.reverse)), y] = ok (.rt (TD (vr 3 ds)) [.val (.cls "Ternary"), .val (.tup (iN ds.reverse)), y]) := by
    generalize iN ds.reverse = L at e1 ⊢
    have e1 : f_number_of [.tup L, .int 3] = _ := e1
    have a : (aCons (dCallU 2 f_number_of [] (aCons (dVar 1) (aCons (dC (.int 3)) aNil))) aNil) [.val (.cls "Ternary"), .val (.tup L), y] = ok ([.int (vr 3 ds : Nat)], [.val (.cls "Ternary"), .val (.tup L), y]) := by
      simp_arith [e1]
    have m := e_make a hv
    unfold sRet dMakeV
    show bd (if ("Ternary" : Str) = "Ternary" then dMake "Ternary" 2 f_Ternary_init [] _ [.val (.cls "Ternary"), .val (.tup L), y] else none) _ = _
    rw [if_pos rfl, m, bd_ok']
  have x : b_Ternary_from_digits [.val (.cls "Ternary"), .val (.tup (iN ds.reverse)), .un] = ok (.rt (TD (vr 3 ds)) [.val (.cls "Ternary"), .val (.tup (iN ds.reverse)), y]) := by
    unfold b_Ternary_from_digits
    rw [seq_at k1, k2]
  show runP 3 b_Ternary_from_digits [.cls "Ternary", .tup (iN ds.reverse)] = _
  unfold runP
  rw [show ([D.cls "Ternary", .tup (iN ds.reverse)].map Sl.val ++ List.replicate (3 - [D.cls "Ternary", .tup (iN ds.reverse)].length) Sl.un) = [.val (.cls "Ternary"), .val (.tup (iN ds.reverse)), .un] from rfl, x]
  rfl
theorem e_cm {fr : S → M (List D × S)} {s s' : S} (ds : List Nat) (h : fr s = ok (iN ds.reverse, s')) (hd : ∀ d ∈ ds, d ≤ 2) (hl : ds.length ≤ 20) : dCMethV "Ternary" f_Ternary_from_digits fr s = ok (TD (vr 3 ds), s') := by
  have e := e_fd ds hd hl
  have sz : (iN ds.reverse).length ≤ sizeLine := sz300 (by rw [List.length_reverse]; omega)
  unfold dCMethV
  rw [h, bd_ok']
  dsimp only
  rw [if_pos sz, e]
  rfl
theorem last3 (n : Nat) : ∃ d0 d1 d2 : Nat, (iN (dg 3 n) ++ [D.int 0, D.int 0, D.int 0]).take 3 = [.int d0, .int d1, .int d2] ∧ d0 ≤ 2 ∧ d1 ≤ 2 ∧ d2 ≤ 2 ∧ (d2 * 3 + d1) * 3 + d0 = n % 27 := by
  by_cases h0 : n = 0
  · subst h0
    exact ⟨0, 0, 0, by rw [dg_zero]; rfl, by decide, by decide, by decide, rfl⟩
  rw [dg_pos (by decide) (by omega)]
  by_cases h1 : n / 3 = 0
  · refine ⟨n % 3, 0, 0, ?_, by omega, by omega, by omega, by omega⟩
    rw [h1, dg_zero]
    rfl
  rw [dg_pos (by decide) (by omega)]
  by_cases h2 : n / 3 / 3 = 0
  · refine ⟨n % 3, n / 3 % 3, 0, ?_, by omega, by omega, by omega, by omega⟩
    rw [h2, dg_zero]
    rfl
  rw [dg_pos (by decide) (by omega)]
  exact ⟨n % 3, n / 3 % 3, n / 3 / 3 % 3, rfl, by omega, by omega, by omega, by omega⟩
theorem vl_loop (a b c d e : Sl) : ∀ (ks : List Nat) (acc : Nat) (x : Sl), ∃ y, forL (gNm 6) (sSet 5 (dBin addI (dBin mulI (dC (.int 3)) (dVar 5)) (dVar 6))) (iN ks) [a, b, c, d, e, .val (.int acc), x] = ok (.nx [a, b, c, d, e, .val (.int (ks.foldl (fun f d => 3 * f + d) acc : Nat)), y])
  | [], acc, x => ⟨x, rfl⟩
  | k :: ks, acc, x => by
    obtain ⟨y, q⟩ := vl_loop a b c d e ks (3 * acc + k) (.val (.int k))
    have m := fun i : Int => v_mulL (i := (3 : Int)) (j := i) (by decide) (by decide)
    have ez : ((3 * acc + k : Nat) : Int) = 3 * (acc : Int) + k := by simp
    refine ⟨y, Eq.trans (forL_cons (s1 := [a, b, c, d, e, .val (.int acc), .val (.int k)]) rfl ?_) q⟩
    rw [ez]
    simp_arith [m]
theorem e_last {n : Nat} (hn : n < 3 ^ 126) : f__law_last_right [.int n] = ok (.bl true) := by
  have h3 : (3 : Nat) ^ 126 < 3 ^ 300 := Nat.pow_lt_pow_right (by decide) (by decide)
  have hb : n < 3 ^ 300 := by omega
  have hm : n % 27 < 3 ^ 300 := Nat.lt_of_lt_of_le (Nat.mod_lt n (by decide)) (by decide)
  have e0 : f__law_digits [.int n, .int 3] = ok (.lst (iN (dg 3 n))) := e_digits (r := 3) (by decide) (by decide) n hb
  have dl : (dg 3 n).length ≤ 300 := dg_len (by decide) 300 n hb
  obtain ⟨d0, d1, d2, et, hd0, hd1, hd2, hv⟩ := last3 n
  have s3 : 0 + 1 + 1 + 1 ≤ sizeLine := by
    show 3 ≤ 2 ^ 24
    decide
  have sc : (iN (dg 3 n)).length + 3 ≤ sizeLine := by
    rw [List.length_map, List.length_map]
    show _ + 3 ≤ 2 ^ 24
    omega
  have k1 : (sSet 1 (dCutL (dBin catL (dCallU 2 f__law_digits [] (aCons (dVar 0) (aCons (dC (.int 3)) aNil))) (dLst (aCons (dC (.int 0)) (aCons (dC (.int 0)) (aCons (dC (.int 0)) aNil))))) partNo (partAt (dC (.int 3))))) [.val (.int n), .un, .un, .un, .un, .un, .un] = ok (.nx [.val (.int n), .val (.lst [.int (d0 : Nat), .int (d1 : Nat), .int (d2 : Nat)]), .un, .un, .un, .un, .un]) := by
    have ct := cut_take (iN (dg 3 n) ++ [D.int 0, D.int 0, D.int 0]) 3
    rw [et] at ct
    generalize iN (dg 3 n) = L at *
    have ct : cutD (L ++ [D.int 0, D.int 0, D.int 0]) none (some 3) = _ := ct
    simp_arith [catL, e0, s3, sc, ct]
  have w1 : vr 3 [d0, d1, d2] = n % 27 := by
    rw [← hv]
    simp only [vr, List.foldr_cons, List.foldr_nil]
    omega
  have w2 : vr 3 [d0, d1, d2, 0, 0] = n % 27 := by
    rw [← hv]
    simp only [vr, List.foldr_cons, List.foldr_nil]
    omega
  have c3 : ∀ s : S, s[1]? = some (.val (.lst [.int (d0 : Nat), .int (d1 : Nat), .int (d2 : Nat)])) → (aCons (dBin ixL (dVar 1) (dC (.int 2))) (aCons (dBin ixL (dVar 1) (dC (.int 1))) (aCons (dBin ixL (dVar 1) (dC (.int 0))) aNil))) s = ok (iN [d0, d1, d2].reverse, s) := fun s h => by
    simp_arith [h, at0, at1, at2]
    rfl
  have all3 : ∀ d ∈ [d0, d1, d2], d ≤ 2 := by
    intro d hd
    simp only [List.mem_cons, List.not_mem_nil, or_false] at hd
    omega
  have all5 : ∀ d ∈ [d0, d1, d2, 0, 0], d ≤ 2 := by
    intro d hd
    simp only [List.mem_cons, List.not_mem_nil, or_false] at hd
    omega
  have all9 : ∀ d ∈ [0, 2, 1, d0, 2, d1, 0, d2, 1], d ≤ 2 := by
    intro d hd
    simp only [List.mem_cons, List.not_mem_nil, or_false] at hd
    omega
  have p3 := fun s h => e_cm [d0, d1, d2] (c3 s h) all3 (by simp)
  rw [w1] at p3
  have c5 : ∀ s : S, s[1]? = some (.val (.lst [.int (d0 : Nat), .int (d1 : Nat), .int (d2 : Nat)])) → (aCons (dC (.int 0)) (aCons (dC (.int 0)) (aCons (dBin ixL (dVar 1) (dC (.int 2))) (aCons (dBin ixL (dVar 1) (dC (.int 1))) (aCons (dBin ixL (dVar 1) (dC (.int 0))) aNil))))) s = ok (iN [d0, d1, d2, 0, 0].reverse, s) := fun s h => by
    simp_arith [h, at0, at1, at2]
    rfl
  have c9 : ∀ s : S, s[1]? = some (.val (.lst [.int (d0 : Nat), .int (d1 : Nat), .int (d2 : Nat)])) → (aCons (dC (.int 1)) (aCons (dBin ixL (dVar 1) (dC (.int 2))) (aCons (dC (.int 0)) (aCons (dBin ixL (dVar 1) (dC (.int 1))) (aCons (dC (.int 2)) (aCons (dBin ixL (dVar 1) (dC (.int 0))) (aCons (dC (.int 1)) (aCons (dC (.int 2)) (aCons (dC (.int 0)) aNil))))))))) s = ok (iN [0, 2, 1, d0, 2, d1, 0, d2, 1].reverse, s) := fun s h => by
    simp_arith [h, at0, at1, at2]
    rfl
  have c1 : ∀ s : S, s[1]? = some (.val (.lst [.int (d0 : Nat), .int (d1 : Nat), .int (d2 : Nat)])) → (aCons (dBin ixL (dVar 1) (dC (.int 0))) aNil) s = ok (iN [d0].reverse, s) := fun s h => by
    simp_arith [h, at0, at1, at2]
    rfl
  have p5 := fun s h => e_cm [d0, d1, d2, 0, 0] (c5 s h) all5 (by simp)
  rw [w2] at p5
  have p9 := fun s h => e_cm [0, 2, 1, d0, 2, d1, 0, d2, 1] (c9 s h) all9 (by simp)
  have p1 := fun s h => e_cm [d0] (c1 s h) (by intro d hd; simp only [List.mem_cons, List.not_mem_nil, or_false] at hd; omega) (by simp)
  have w3 : vr 3 [d0] = d0 := by
    simp only [vr, List.foldr_cons, List.foldr_nil]
    omega
  rw [w3] at p1
  have p0 := fun s => e_cm (fr := aNil) (s := s) (s' := s) [] rfl (by simp) (by simp)
  have w0 : vr 3 [] = 0 := rfl
  rw [w0] at p0
  have md : ∀ s : S, s[0]? = some (.val (.int n)) → (aCons (dBin modI (dVar 0) (dC (.int 27))) aNil) s = ok ([.int (n % 27 : Nat)], s) := fun s h => by
    have e := v_mod (i := (n : Int)) (show (0 : Int) < 27 by decide)
    simp_arith [h, e]
    rfl
  have pm := fun s h => e_make (md s h) hm
  have z0 := fun s : S => e_make (fr := aCons (dC (.int 0)) aNil) (s := s) (s' := s) (n := 0) rfl (by decide)
  have es := e_str_p hm
  have en := e_number_p (vr 3 [0, 2, 1, d0, 2, d1, 0, d2, 1])
  have en1 := e_number_p d0
  have ed := e_digits_p (n % 27)
  have q1 := own_t (!·) (n % 27) (n % 27)
  have q0 := own_t id 0 0
  rw [decide_eq_true rfl] at q1 q0
  have ntt := v_neTT (dg 3 (n % 27)).reverse
  obtain ⟨y, vl⟩ := vl_loop (.val (.int n)) (.val (.lst [.int (d0 : Nat), .int (d1 : Nat), .int (d2 : Nat)])) (.val (TD (n % 27))) (.val (TD (n % 27))) (.val (TD (n % 27))) [1, d2, 0, d1, 2, d0, 1, 2, 0] 0 .un
  have vz : [1, d2, 0, d1, 2, d0, 1, 2, 0].foldl (fun f d => 3 * f + d) 0 = vr 3 [0, 2, 1, d0, 2, d1, 0, d2, 1] := by
    simp only [vr, List.foldr_cons, List.foldr_nil, List.foldl_cons, List.foldl_nil]
    omega
  rw [vz] at vl
  generalize hZ : vr 3 [0, 2, 1, d0, 2, d1, 0, d2, 1] = Z at *
  have pr : ∀ (T : D) (g : FnD) (r : D) (f : S → M (D × S)) (s : S), (∃ fs, T = .obj "Ternary" fs) → f s = ok (T, s) → g [T] = ok r → dProp "Ternary" g f s = ok (r, s) := fun T g r f s h0 h1 h2 => by
    obtain ⟨fs, rfl⟩ := h0
    unfold dProp
    rw [h1, bd_ok']
    dsimp only
    rw [if_pos rfl, h2]
    rfl
  have os : ∀ k, ∃ fs, TD k = .obj "Ternary" fs := fun k => ⟨_, rfl⟩
  have oZ := os Z
  have o0 := os d0
  have oW := os (n % 27)
  have es1 : strO "Ternary" f_Ternary_str [TD (n % 27)] = ok (.str (TX (n % 27))) := by
    unfold strO
    dsimp only
    rw [if_pos rfl, es]
    rfl
  generalize TD Z = TZ at *
  generalize TD d0 = T0 at *
  generalize TD (n % 27) = W at *
  generalize TD 0 = O at *
  generalize TX (n % 27) = X at *
  generalize iN (dg 3 (n % 27)).reverse = LW at *
  have k2 : (sSet 2 (dCMethV "Ternary" f_Ternary_from_digits (aCons (dBin ixL (dVar 1) (dC (.int 2))) (aCons (dBin ixL (dVar 1) (dC (.int 1))) (aCons (dBin ixL (dVar 1) (dC (.int 0))) aNil))))) [.val (.int n), .val (.lst [.int (d0 : Nat), .int (d1 : Nat), .int (d2 : Nat)]), .un, .un, .un, .un, .un] = ok (.nx [.val (.int n), .val (.lst [.int (d0 : Nat), .int (d1 : Nat), .int (d2 : Nat)]), .val W, .un, .un, .un, .un]) := by
    have a := p3 [.val (.int n), .val (.lst [.int (d0 : Nat), .int (d1 : Nat), .int (d2 : Nat)]), .un, .un, .un, .un, .un] rfl
    generalize (dCMethV "Ternary" f_Ternary_from_digits (aCons (dBin ixL (dVar 1) (dC (.int 2))) (aCons (dBin ixL (dVar 1) (dC (.int 1))) (aCons (dBin ixL (dVar 1) (dC (.int 0))) aNil)))) = F at a ⊢
    simp_arith [a]
  have k3 : (sSet 3 (dCMethV "Ternary" f_Ternary_from_digits (aCons (dC (.int 0)) (aCons (dC (.int 0)) (aCons (dBin ixL (dVar 1) (dC (.int 2))) (aCons (dBin ixL (dVar 1) (dC (.int 1))) (aCons (dBin ixL (dVar 1) (dC (.int 0))) aNil))))))) [.val (.int n), .val (.lst [.int (d0 : Nat), .int (d1 : Nat), .int (d2 : Nat)]), .val W, .un, .un, .un, .un] = ok (.nx [.val (.int n), .val (.lst [.int (d0 : Nat), .int (d1 : Nat), .int (d2 : Nat)]), .val W, .val W, .un, .un, .un]) := by
    have a := p5 [.val (.int n), .val (.lst [.int (d0 : Nat), .int (d1 : Nat), .int (d2 : Nat)]), .val W, .un, .un, .un, .un] rfl
    generalize (dCMethV "Ternary" f_Ternary_from_digits (aCons (dC (.int 0)) (aCons (dC (.int 0)) (aCons (dBin ixL (dVar 1) (dC (.int 2))) (aCons (dBin ixL (dVar 1) (dC (.int 1))) (aCons (dBin ixL (dVar 1) (dC (.int 0))) aNil)))))) = F at a ⊢
    simp_arith [a]
  have k4 : (sSet 4 (dMake "Ternary" 2 f_Ternary_init [] (aCons (dBin modI (dVar 0) (dC (.int 27))) aNil))) [.val (.int n), .val (.lst [.int (d0 : Nat), .int (d1 : Nat), .int (d2 : Nat)]), .val W, .val W, .un, .un, .un] = ok (.nx [.val (.int n), .val (.lst [.int (d0 : Nat), .int (d1 : Nat), .int (d2 : Nat)]), .val W, .val W, .val W, .un, .un]) := by
    have a := pm [.val (.int n), .val (.lst [.int (d0 : Nat), .int (d1 : Nat), .int (d2 : Nat)]), .val W, .val W, .un, .un, .un] rfl
    generalize dMake "Ternary" 2 f_Ternary_init [] (aCons (dBin modI (dVar 0) (dC (.int 27))) aNil) = F at a ⊢
    simp_arith [a]
  have k5 : (sIf (dOr (dTst (dBin (ownQ "Ternary" f_Ternary_eq (!·)) (dVar 2) (dVar 4))) (dOr (dTst (dBin (ownQ "Ternary" f_Ternary_eq (!·)) (dVar 3) (dVar 4))) (dOr (dTst (dBin neD (dProp "Ternary" f_Ternary_digits (dVar 2)) (dProp "Ternary" f_Ternary_digits (dVar 4)))) (dTst (dBin neS (dCall (strO "Ternary" f_Ternary_str) (aCons (dVar 3) aNil)) (dCall (strO "Ternary" f_Ternary_str) (aCons (dVar 4) aNil))))))) (sRet (dC (.bl false))) sNil) [.val (.int n), .val (.lst [.int (d0 : Nat), .int (d1 : Nat), .int (d2 : Nat)]), .val W, .val W, .val W, .un, .un] = ok (.nx [.val (.int n), .val (.lst [.int (d0 : Nat), .int (d1 : Nat), .int (d2 : Nat)]), .val W, .val W, .val W, .un, .un]) := by
    have a2 := pr W f_Ternary_digits (.tup LW) (dVar 2) [.val (.int n), .val (.lst [.int (d0 : Nat), .int (d1 : Nat), .int (d2 : Nat)]), .val W, .val W, .val W, .un, .un] oW rfl ed
    have a4 := pr W f_Ternary_digits (.tup LW) (dVar 4) [.val (.int n), .val (.lst [.int (d0 : Nat), .int (d1 : Nat), .int (d2 : Nat)]), .val W, .val W, .val W, .un, .un] oW rfl ed
    have qq := neSS X
    generalize dProp "Ternary" f_Ternary_digits (dVar 2) = F2 at a2 ⊢
    generalize dProp "Ternary" f_Ternary_digits (dVar 4) = F4 at a4 ⊢
    simp_arith [a2, a4, qq, q1, ntt, es1]
  have k6 : (sSet 5 (dC (.int 0))) [.val (.int n), .val (.lst [.int (d0 : Nat), .int (d1 : Nat), .int (d2 : Nat)]), .val W, .val W, .val W, .un, .un] = ok (.nx [.val (.int n), .val (.lst [.int (d0 : Nat), .int (d1 : Nat), .int (d2 : Nat)]), .val W, .val W, .val W, .val (.int 0), .un]) := rfl
  have s9 : 0 + 1 + 1 + 1 + 1 + 1 + 1 + 1 + 1 + 1 ≤ sizeLine := by
    show 9 ≤ 2 ^ 24
    decide
  have k7 : (sFor (iTp (dTup (aCons (dC (.int 1)) (aCons (dBin ixL (dVar 1) (dC (.int 2))) (aCons (dC (.int 0)) (aCons (dBin ixL (dVar 1) (dC (.int 1))) (aCons (dC (.int 2)) (aCons (dBin ixL (dVar 1) (dC (.int 0))) (aCons (dC (.int 1)) (aCons (dC (.int 2)) (aCons (dC (.int 0)) aNil))))))))))) (gNm 6) (sSet 5 (dBin addI (dBin mulI (dC (.int 3)) (dVar 5)) (dVar 6)))) [.val (.int n), .val (.lst [.int (d0 : Nat), .int (d1 : Nat), .int (d2 : Nat)]), .val W, .val W, .val W, .val (.int 0), .un] = ok (.nx [.val (.int n), .val (.lst [.int (d0 : Nat), .int (d1 : Nat), .int (d2 : Nat)]), .val W, .val W, .val W, .val (.int Z), y]) := by
    have a : iTp (dTup (aCons (dC (.int 1)) (aCons (dBin ixL (dVar 1) (dC (.int 2))) (aCons (dC (.int 0)) (aCons (dBin ixL (dVar 1) (dC (.int 1))) (aCons (dC (.int 2)) (aCons (dBin ixL (dVar 1) (dC (.int 0))) (aCons (dC (.int 1)) (aCons (dC (.int 2)) (aCons (dC (.int 0)) aNil)))))))))) [.val (.int n), .val (.lst [.int (d0 : Nat), .int (d1 : Nat), .int (d2 : Nat)]), .val W, .val W, .val W, .val (.int 0), .un] = ok (iN [1, d2, 0, d1, 2, d0, 1, 2, 0], [.val (.int n), .val (.lst [.int (d0 : Nat), .int (d1 : Nat), .int (d2 : Nat)]), .val W, .val W, .val W, .val (.int 0), .un]) := by
      simp_arith [at0, at1, at2]
      rfl
    unfold sFor
    rw [a, bd_ok']
    exact vl
  have k8 : (sIf (dTst (dBin neD (dProp "Ternary" f_Ternary_number (dCMethV "Ternary" f_Ternary_from_digits (aCons (dC (.int 1)) (aCons (dBin ixL (dVar 1) (dC (.int 2))) (aCons (dC (.int 0)) (aCons (dBin ixL (dVar 1) (dC (.int 1))) (aCons (dC (.int 2)) (aCons (dBin ixL (dVar 1) (dC (.int 0))) (aCons (dC (.int 1)) (aCons (dC (.int 2)) (aCons (dC (.int 0)) aNil))))))))))) (dVar 5))) (sRet (dC (.bl false))) sNil) [.val (.int n), .val (.lst [.int (d0 : Nat), .int (d1 : Nat), .int (d2 : Nat)]), .val W, .val W, .val W, .val (.int Z), y] = ok (.nx [.val (.int n), .val (.lst [.int (d0 : Nat), .int (d1 : Nat), .int (d2 : Nat)]), .val W, .val W, .val W, .val (.int Z), y]) := by
    have a := pr TZ f_Ternary_number (.int Z) _ [.val (.int n), .val (.lst [.int (d0 : Nat), .int (d1 : Nat), .int (d2 : Nat)]), .val W, .val W, .val W, .val (.int Z), y] oZ (p9 [.val (.int n), .val (.lst [.int (d0 : Nat), .int (d1 : Nat), .int (d2 : Nat)]), .val W, .val W, .val W, .val (.int Z), y] rfl) en
    generalize dProp "Ternary" f_Ternary_number (dCMethV "Ternary" f_Ternary_from_digits (aCons (dC (.int 1)) (aCons (dBin ixL (dVar 1) (dC (.int 2))) (aCons (dC (.int 0)) (aCons (dBin ixL (dVar 1) (dC (.int 1))) (aCons (dC (.int 2)) (aCons (dBin ixL (dVar 1) (dC (.int 0))) (aCons (dC (.int 1)) (aCons (dC (.int 2)) (aCons (dC (.int 0)) aNil)))))))))) = F at a ⊢
    have e := v_neI Z Z
    rw [decide_eq_true rfl] at e
    simp_arith [a, e]
  have k9 : (sRet (vAnd (dBin eqD (dProp "Ternary" f_Ternary_number (dCMethV "Ternary" f_Ternary_from_digits (aCons (dBin ixL (dVar 1) (dC (.int 0))) aNil))) (dBin ixL (dVar 1) (dC (.int 0)))) (dBin (ownQ "Ternary" f_Ternary_eq id) (dCMethV "Ternary" f_Ternary_from_digits aNil) (dMake "Ternary" 2 f_Ternary_init [] (aCons (dC (.int 0)) aNil))))) [.val (.int n), .val (.lst [.int (d0 : Nat), .int (d1 : Nat), .int (d2 : Nat)]), .val W, .val W, .val W, .val (.int Z), y] = ok (.rt (.bl true) [.val (.int n), .val (.lst [.int (d0 : Nat), .int (d1 : Nat), .int (d2 : Nat)]), .val W, .val W, .val W, .val (.int Z), y]) := by
    have a := pr T0 f_Ternary_number (.int d0) _ [.val (.int n), .val (.lst [.int (d0 : Nat), .int (d1 : Nat), .int (d2 : Nat)]), .val W, .val W, .val W, .val (.int Z), y] o0 (p1 [.val (.int n), .val (.lst [.int (d0 : Nat), .int (d1 : Nat), .int (d2 : Nat)]), .val W, .val W, .val W, .val (.int Z), y] rfl) en1
    have b := p0 [.val (.int n), .val (.lst [.int (d0 : Nat), .int (d1 : Nat), .int (d2 : Nat)]), .val W, .val W, .val W, .val (.int Z), y]
    have c := z0 [.val (.int n), .val (.lst [.int (d0 : Nat), .int (d1 : Nat), .int (d2 : Nat)]), .val W, .val W, .val W, .val (.int Z), y]
    generalize dProp "Ternary" f_Ternary_number (dCMethV "Ternary" f_Ternary_from_digits (aCons (dBin ixL (dVar 1) (dC (.int 0))) aNil)) = F at a ⊢
    generalize dCMethV "Ternary" f_Ternary_from_digits aNil = G at b ⊢
    generalize dMake "Ternary" 2 f_Ternary_init [] (aCons (dC (.int 0)) aNil) = K at c ⊢
    simp_arith [a, b, c, q0, at0, id]
  have x : b__law_last_right [.val (.int n), .un, .un, .un, .un, .un, .un] = ok (.rt (.bl true) [.val (.int n), .val (.lst [.int (d0 : Nat), .int (d1 : Nat), .int (d2 : Nat)]), .val W, .val W, .val W, .val (.int Z), y]) := by
    unfold b__law_last_right
    rw [seq_at k1, seq_at k2, seq_at k3, seq_at k4, seq_at k5, seq_at k6, seq_at k7, seq_at k8, k9]
  show runP 7 b__law_last_right [.int n] = _
  unfold runP
  rw [show ([D.int (n : Int)].map Sl.val ++ List.replicate (7 - [D.int (n : Int)].length) Sl.un) = [.val (.int n), .un, .un, .un, .un, .un, .un] from rfl, x]
  rfl
end Tf
end
noncomputable section
namespace Tf
open PySem Dt
local macro_rules
  | `(tactic| simp_arith [$ts,*]) => `(tactic| simp only [runP, runF, runI, sSeq, sSet, sRet, sRetF, sRetN, sIf, sAsg, sPar, sPar3, sExpr, sNil, sNever, sPub, sOwn, sApp, sPut, dBin, dVar, dC, dTst, dNot, dAnd, dOr, vAnd, vOr, vNot, dIf, dTup, dLst, aNil, aCons, dCall, dCallU, dCallK, dCallI, dIsi, dOwnIx, gNm, gTp, gsNil, gsCons, iR1, iEn, iLst, dListZip, dRep, ownL, ownD, putL, putD, pubS, bd_ok', v_add, v_sub, v_lt, v_le, v_gt, v_ge, v_is0, v_is1, v_eqI, v_neI, v_isII, v_isBI, List.map_cons, List.map_nil, List.cons_append, List.nil_append, List.append_nil, List.length_cons, List.length_nil, List.replicate, List.getElem?_cons_zero, List.getElem?_cons_succ, List.set_cons_zero, List.set_cons_succ, if_true, if_false, Nat.reduceAdd, Nat.reduceSub, Nat.reduceEqDiff, Bool.false_eq_true, Bool.not_true, Bool.not_false, decide_true, decide_false, and_self, bdC_ok, bdI_ok, bdM_ok, nx_ok, exI_ok, dTupZ, dUnz, D.unz, dCntZ, dCMethV, dTst, dIsA, dIsiTUE, iaI_int, iaB_int, dNeg, dFld, fldD, dProp, dMake, sFldPut, setF, dDic0, dChain, dOwnFld, sDPut, dOwnDGet, dNinDic, dInDic, kD, dIsiTU, dIsC, isC, inV, ninV, m2, ixT, ixL, dMeth, dMethK, sAugI, dCutT, dCutL, partNo, partAt, dMakeV, dCMeth, dCallV, dMethV, gLs, iTp, iEnT, dView, tView, viewS, D.scal, sSet2, sParM2, sParM3, mOwn, mVal, mNil, iRA, gArgs, gArgsK, sBreak, $ts,*])
theorem runB_rt {m : Nat} {qs : List Str} {F : S → M Out} {ds : List D} {d : D} {s : S} (h : F ((ds.map Sl.val ++ List.replicate (m - ds.length) Sl.un) ++ qs.map fun q => .own (.tab q)) = ok (.rt d s)) (t : tabsOk qs (s.drop m) = true) : runB m qs F ds = ok d := by
  unfold runB
  rw [h, nx_ok, bd_ok']
  dsimp only
  rw [if_pos t]
theorem lam_at {q : Str} {i m : Nat} {ix : List Nat} {ds : List D} {fE : S → M (D × S)} {s : S} {r : D} (h1 : ownD s[i]? = some (.tab q)) (h2 : s.length = m) (h3 : capD ix s = some ds) (h4 : T__law_told (valM (fE (capS m ix ds))) = ok r) : dLam i q m ix fE T__law_told s = ok (r, s) := by
  unfold dLam
  rw [h1]
  dsimp only
  rw [if_pos ⟨rfl, h2⟩, h3]
  dsimp only
  rw [h4, bdC_ok]
abbrev qL : Str := "_law_errors_right.<locals>.<lambda>"
abbrev bad (d : D) : Prop := f_is_integer [d, .int 0, .int 2] = ok (.bl false)
abbrev fdB : S → M Out := sExpr (dCallU 3 f_check_number [] (aCons (dVar 2) (aCons (dC (.int 0)) (aCons (dC (.int 2)) aNil))))
theorem fdx_body {d : D} (h : bad d) (a b : Sl) : ∃ z, fdB [a, b, .val d] = exc ⟨"InvalidNumber", [d]⟩ z := by
  obtain ⟨s, e⟩ := e_checkN h
  unfold fdB sExpr dCallU
  rw [show (aCons (dVar 2) (aCons (dC (.int 0)) (aCons (dC (.int 2)) aNil))) [a, b, .val d] = ok ([d, .int 0, .int 2], [a, b, .val d]) from rfl, bd_ok']
  dsimp only
  show ∃ z, bd (if 3 = 3 then bdC (f_check_number [d, .int 0, .int 2]) _ _ else none) _ = _
  rw [if_pos rfl, e]
  exact ⟨_, rfl⟩
theorem fdx_loop {d : D} (h : bad d) (a b : Sl) (post : List D) : ∀ (pre : List Nat) (x : Sl), (∀ k ∈ pre, k ≤ 2) → ∃ z, forL (gNm 2) fdB (iN pre ++ d :: post) [a, b, x] = exc ⟨"InvalidNumber", [d]⟩ z
  | [], x, _ => by
    obtain ⟨z, e⟩ := fdx_body h a b
    refine ⟨z, ?_⟩
    show bd (fdB [a, b, .val d]) _ = _
    rw [e]
    rfl
  | k :: ks, x, hk => by
    obtain ⟨y, e⟩ := fdx_loop h a b post ks (.val (.int k)) fun j hj => hk j (List.mem_cons_of_mem _ hj)
    have c := e_checkD k (hk k List.mem_cons_self)
    refine ⟨y, Eq.trans (forL_cons (s1 := [a, b, .val (.int k)]) rfl ?_) e⟩
    unfold fdB
    simp_arith [c]
theorem e_fdx {d : D} (h : bad d) (pre : List Nat) (post : List D) (hp : ∀ k ∈ pre, k ≤ 2) : ∃ s, f_Ternary_from_digits [.cls "Ternary", .tup (iN pre ++ d :: post)] = exc ⟨"InvalidNumber", [d]⟩ s := by
  obtain ⟨z, e⟩ := fdx_loop h (.val (.cls "Ternary")) (.val (.tup (iN pre ++ d :: post))) post pre .un hp
  generalize iN pre ++ d :: post = L at e ⊢
  have k1 : (sFor (iTp (dVar 1)) (gNm 2) fdB) [.val (.cls "Ternary"), .val (.tup L), .un] = exc ⟨"InvalidNumber", [d]⟩ z := by
    unfold sFor
    rw [show iTp (dVar 1) [.val (.cls "Ternary"), .val (.tup L), .un] = ok (L, [.val (.cls "Ternary"), .val (.tup L), .un]) from rfl, bd_ok']
    exact e
  have x : b_Ternary_from_digits [.val (.cls "Ternary"), .val (.tup L), .un] = exc ⟨"InvalidNumber", [d]⟩ z := by
    unfold b_Ternary_from_digits sSeq
    rw [k1]
    rfl
  show ∃ s, runP 3 b_Ternary_from_digits [.cls "Ternary", .tup L] = _
  unfold runP
  rw [show ([D.cls "Ternary", .tup L].map Sl.val ++ List.replicate (3 - [D.cls "Ternary", .tup L].length) Sl.un) = [.val (.cls "Ternary"), .val (.tup L), .un] from rfl, x]
  exact ⟨_, rfl⟩
theorem l_told {d o : D} (h : bad o) (pre : List Nat) (post : List D) (hp : ∀ k ∈ pre, k ≤ 2) {fr : S → M (List D × S)} (hf : fr [.val d, .un, .un] = ok (iN pre ++ o :: post, [.val d, .un, .un])) (sz : (iN pre ++ o :: post).length ≤ sizeLine) (x : Sl) :
    dLam 2 qL 3 [0] (dCMethV "Ternary" f_Ternary_from_digits fr) T__law_told [.val d, x, .own (.tab qL)] = ok (.lst [o], [.val d, x, .own (.tab qL)]) := by
  refine lam_at (ds := [d]) rfl rfl rfl ?_
  obtain ⟨s, e⟩ := e_fdx h pre post hp
  show T__law_told (valM (dCMethV "Ternary" f_Ternary_from_digits fr [.val d, .un, .un])) = _
  unfold dCMethV
  rw [hf, bd_ok']
  dsimp only
  rw [if_pos sz, e]
  rfl
theorem bad5 : bad (.int 5) := e_isint 5 0 2
theorem e_dig (d : D) (h : bad d) : f_Ternary_is_digit [d] = ok (.bl false) := by
  have h : f_is_integer [d, .int 0, .int 2] = _ := h
  simp_arith [f_Ternary_is_digit, b_Ternary_is_digit, h]
theorem e_errors {d : D} (h : bad d) (hreg : d.isReg = false) (hr : ∃ t, reprN [.lst [.lst [d], .lst [d], .lst [.int 5]]] = ok (.str t)) : f__law_errors_right [d] = ok (.bl true) := by
  obtain ⟨t, et⟩ := hr
  have sz1 : ([d] : List D).length ≤ sizeLine := by
    show 1 ≤ 2 ^ 24
    decide
  have a1 := fun x => l_told (d := d) h [] [] (by simp) (fr := (aCons (dVar 0) aNil)) rfl (by show 1 ≤ 2 ^ 24; decide) x
  have a2 := fun x => l_told (d := d) h [0, 1] [.int 5] (by decide) (fr := (aCons (dC (.int 0)) (aCons (dC (.int 1)) (aCons (dVar 0) (aCons (dC (.int 5)) aNil))))) rfl (by show 4 ≤ 2 ^ 24; decide) x
  have a3 := fun x => l_told (d := d) bad5 [] [d] (by simp) (fr := (aCons (dC (.int 5)) (aCons (dVar 0) aNil))) rfl (by show 2 ≤ 2 ^ 24; decide) x
  have s1 : 0 + 1 ≤ sizeLine := by
    show 1 ≤ 2 ^ 24
    decide
  have s2 : 0 + 1 + 1 ≤ sizeLine := by
    show 2 ≤ 2 ^ 24
    decide
  have s3 : 0 + 1 + 1 + 1 ≤ sizeLine := by
    show 3 ≤ 2 ^ 24
    decide
  have t1 : 1 < sizeLine := by
    show 1 < 2 ^ 24
    decide
  have t2 : 2 < sizeLine := by
    show 2 < 2 ^ 24
    decide
  have k1 : (sOwn 1 (dLst (aCons (dLam 2 "_law_errors_right.<locals>.<lambda>" 3 [0] (dCMethV "Ternary" f_Ternary_from_digits (aCons (dVar 0) aNil)) T__law_told) aNil))) [.val d, .un, .own (.tab qL)] = ok (.nx [.val d, .own (.lst [.lst [d]]), .own (.tab qL)]) := by
    have a := a1 .un
    generalize (dLam 2 "_law_errors_right.<locals>.<lambda>" 3 [0] (dCMethV "Ternary" f_Ternary_from_digits (aCons (dVar 0) aNil)) T__law_told) = F at a ⊢
    simp_arith [a, s1]
  have k2 : (sApp 1 (dLam 2 "_law_errors_right.<locals>.<lambda>" 3 [0] (dCMethV "Ternary" f_Ternary_from_digits (aCons (dC (.int 0)) (aCons (dC (.int 1)) (aCons (dVar 0) (aCons (dC (.int 5)) aNil))))) T__law_told)) [.val d, .own (.lst [.lst [d]]), .own (.tab qL)] = ok (.nx [.val d, .own (.lst [.lst [d], .lst [d]]), .own (.tab qL)]) := by
    have a := a2 (.own (.lst [.lst [d]]))
    generalize (dLam 2 "_law_errors_right.<locals>.<lambda>" 3 [0] (dCMethV "Ternary" f_Ternary_from_digits (aCons (dC (.int 0)) (aCons (dC (.int 1)) (aCons (dVar 0) (aCons (dC (.int 5)) aNil))))) T__law_told) = F at a ⊢
    simp_arith [a, s1, s2, t1]
  have k3 : (sApp 1 (dLam 2 "_law_errors_right.<locals>.<lambda>" 3 [0] (dCMethV "Ternary" f_Ternary_from_digits (aCons (dC (.int 5)) (aCons (dVar 0) aNil))) T__law_told)) [.val d, .own (.lst [.lst [d], .lst [d]]), .own (.tab qL)] = ok (.nx [.val d, .own (.lst [.lst [d], .lst [d], .lst [.int 5]]), .own (.tab qL)]) := by
    have a := a3 (.own (.lst [.lst [d], .lst [d]]))
    generalize (dLam 2 "_law_errors_right.<locals>.<lambda>" 3 [0] (dCMethV "Ternary" f_Ternary_from_digits (aCons (dC (.int 5)) (aCons (dVar 0) aNil))) T__law_told) = F at a ⊢
    simp_arith [a, s1, s2, s3, t2]
  have e6 := e_dig d h
  have k4 : (sPub 1 (sRet (vAnd (dBin eqS (dCall reprN (aCons (dVar 1) aNil)) (dCall reprN (aCons (dLst (aCons (dLst (aCons (dVar 0) aNil)) (aCons (dLst (aCons (dVar 0) aNil)) (aCons (dLst (aCons (dC (.int 5)) aNil)) aNil)))) aNil))) (dBin isBl (dCallU 1 f_Ternary_is_digit [] (aCons (dVar 0) aNil)) (dC (.bl false)))))) [.val d, .own (.lst [.lst [d], .lst [d], .lst [.int 5]]), .own (.tab qL)] = ok (.rt (.bl true) [.val d, .val (.lst [.lst [d], .lst [d], .lst [.int 5]]), .own (.tab qL)]) := by
    have qq := eqSS t
    have e7 : isBl (.bl false) (.bl false) = ok (.bl true) := rfl
    simp_arith [et, e6, e7, qq, s1, s3]
  refine runB_rt (s := [.val d, .val (.lst [.lst [d], .lst [d], .lst [.int 5]]), .own (.tab qL)]) ?_ rfl
  show b__law_errors_right [.val d, .un, .own (.tab qL)] = _
  unfold b__law_errors_right
  rw [seq_at k1, seq_at k2, seq_at k3, k4]
end Tf
end
noncomputable section
namespace Tf
open PySem Dt
local macro_rules
  | `(tactic| simp_arith [$ts,*]) => `(tactic| simp only [runP, runF, runI, sSeq, sSet, sRet, sRetF, sRetN, sIf, sAsg, sPar, sPar3, sExpr, sNil, sNever, sPub, sOwn, sApp, sPut, dBin, dVar, dC, dTst, dNot, dAnd, dOr, vAnd, vOr, vNot, dIf, dTup, dLst, aNil, aCons, dCall, dCallU, dCallK, dCallI, dIsi, dOwnIx, gNm, gTp, gsNil, gsCons, iR1, iEn, iLst, dListZip, dRep, ownL, ownD, putL, putD, pubS, bd_ok', v_add, v_sub, v_lt, v_le, v_gt, v_ge, v_is0, v_is1, v_eqI, v_neI, v_isII, v_isBI, List.map_cons, List.map_nil, List.cons_append, List.nil_append, List.append_nil, List.length_cons, List.length_nil, List.replicate, List.getElem?_cons_zero, List.getElem?_cons_succ, List.set_cons_zero, List.set_cons_succ, if_true, if_false, Nat.reduceAdd, Nat.reduceSub, Nat.reduceEqDiff, Bool.false_eq_true, Bool.not_true, Bool.not_false, decide_true, decide_false, and_self, bdC_ok, bdI_ok, bdM_ok, nx_ok, exI_ok, dTupZ, dUnz, D.unz, dCntZ, dCMethV, dTst, dIsA, dIsiTUE, iaI_int, iaB_int, dNeg, dFld, fldD, dProp, dMake, sFldPut, setF, dDic0, dChain, dOwnFld, sDPut, dOwnDGet, dNinDic, dInDic, kD, dIsiTU, dIsC, isC, inV, ninV, m2, ixT, ixL, dMeth, dMethK, sAugI, dCutT, dCutL, partNo, partAt, dMakeV, dCMeth, dCallV, dMethV, gLs, iTp, iEnT, dView, tView, viewS, D.scal, sSet2, sParM2, sParM3, mOwn, mVal, mNil, iRA, gArgs, gArgsK, sBreak, $ts,*])
theorem callB_ev {n : Nat} {ix : List (Nat × Str)} {g : FnD} {fr : S → M (List D × S)} {s s' : S} {ds : List D} {r : D} (h1 : fr s = ok (ds, s')) (h2 : ds.length = n) (h3 : tabsIn ix s' = true) (h4 : g ds = ok r) : dCallB n ix g fr s = ok (r, s') := by
  unfold dCallB
  rw [h1, bd_ok']
  dsimp only
  rw [if_pos ⟨h2, h3⟩, h4, nx_ok, bdC_ok]
theorem cut_iD (ns : List Int) (lo hi : Option Int) : ∃ ms : List Int, cutD (iD ns) lo hi = iD ms ∧ ms.length ≤ ns.length := by
  refine ⟨(ns.drop (HT.sIx ns.length 0 lo)).take (HT.sIx ns.length ns.length hi - HT.sIx ns.length 0 lo), ?_, ?_⟩
  · unfold cutD iD
    rw [List.length_map, List.map_take, List.map_drop]
  · rw [List.length_take, List.length_drop]
    omega
theorem enum_at : ∀ (ds : List D) (k i : Nat) (d : D), (enumD k ds)[i]? = some d → ∃ e, ds[i]? = some e ∧ d = .tup [.int ((k + i : Nat) : Int), e]
  | [], k, i, d, h => by simp [enumD] at h
  | e :: es, k, 0, d, h => by
    cases h
    exact ⟨e, rfl, rfl⟩
  | e :: es, k, i + 1, d, h => by
    obtain ⟨e', h1, h2⟩ := enum_at es (k + 1) i d (by simpa [enumD] using h)
    exact ⟨e', by simpa using h1, by rw [h2, show k + 1 + i = k + (i + 1) by omega]⟩
def Good (d : D) : Prop := bad d ∧ d.isReg = false ∧ ∃ t, reprN [.lst [.lst [d], .lst [d], .lst [.int 5]]] = ok (.str t)
abbrev oddL : List D := [.non, .bl true, .bl false, .int (-1), .int 3, .str "1", .tup [.int 1], .lst [], .int (10 ^ 40)]
theorem g_i {i : Int} (h : ¬ (0 ≤ i ∧ i ≤ 2)) (l : i.natAbs.log2 < 1920) : Good (.int i) := by
  refine ⟨(e_isint i 0 2).trans (by rw [decide_eq_false h]), rfl, _, repr_lst ?_ ?_ ?_⟩
  · show ((decide (i.natAbs.log2 < 1920) && true) && ((decide (i.natAbs.log2 < 1920) && true) && (((decide ((5 : Int).natAbs.log2 < 1920)) && true) && true))) = true
    rw [decide_eq_true l, decide_eq_true (show (5 : Int).natAbs.log2 < 1920 by decide)]
    rfl
  · show 0 + 1 + 0 + 1 + (0 + 1 + 0 + 1 + (0 + 1 + 0 + 1 + 0)) ≤ 8000
    decide
  · show max (max 0 0 + 1) (max (max 0 0 + 1) (max (max 0 0 + 1) 0)) ≤ 59
    decide
theorem e_odd (r : Int) (h0 : 0 ≤ r) (h1 : r < 9) : ∃ d, L2.atI oddL r = some d ∧ Good d := by
  have c : r = 0 ∨ r = 1 ∨ r = 2 ∨ r = 3 ∨ r = 4 ∨ r = 5 ∨ r = 6 ∨ r = 7 ∨ r = 8 := by omega
  rcases c with rfl | rfl | rfl | rfl | rfl | rfl | rfl | rfl | rfl
  · exact ⟨.non, rfl, rfl, rfl, _, repr_lst (by decide +kernel) (by decide +kernel) (by decide +kernel)⟩
  · exact ⟨.bl true, rfl, rfl, rfl, _, repr_lst (by decide +kernel) (by decide +kernel) (by decide +kernel)⟩
  · exact ⟨.bl false, rfl, rfl, rfl, _, repr_lst (by decide +kernel) (by decide +kernel) (by decide +kernel)⟩
  · exact ⟨.int (-1), rfl, g_i (by decide) (by decide)⟩
  · exact ⟨.int 3, rfl, g_i (by decide) (by decide)⟩
  · exact ⟨.str "1", rfl, rfl, rfl, _, repr_lstU (by decide +kernel) (by decide +kernel) (by decide +kernel)⟩
  · exact ⟨.tup [.int 1], rfl, rfl, rfl, _, repr_lst (by decide +kernel) (by decide +kernel) (by decide +kernel)⟩
  · exact ⟨.lst [], rfl, rfl, rfl, _, repr_lst (by decide +kernel) (by decide +kernel) (by decide +kernel)⟩
  · exact ⟨.int (10 ^ 40), rfl, g_i (by decide +kernel) (by decide +kernel)⟩
abbrev innerB : S → M Out := (sSeq (sSet 7 (dCallI 4 1 f__law_number aNil))
    (sIf (dOr (dNot (dTst (dCallU 1 f__law_object_right [] (aCons (dVar 7) aNil)))) (dNot (dTst (dCallU 1 f__law_last_right [] (aCons (dVar 7) aNil)))))
    (sRet (dC (.bl false)))
    sNil))
theorem e_inner {a b c e f g x : Sl} {n : Nat} {d : D} (h : Strm n d) (hn : n < 5000) : ∃ (d' : D) (g' : Sl), innerB [a, b, c, e, .own d, x, f, g, .own (.tab qL)] = ok (.nx [a, b, c, e, .own d', x, f, g', .own (.tab qL)]) ∧ Strm (n + 130) d' := by
  obtain ⟨r, d1, e1, r0, r1, s1⟩ := e_number h (by omega)
  obtain ⟨i, rfl⟩ : ∃ i : Nat, r = i := ⟨r.toNat, by omega⟩
  have hi : i < 3 ^ 126 := by exact_mod_cast r1
  have e2 := e_right hi
  have e3 := e_last hi
  refine ⟨d1, .val (.int i), ?_, s1⟩
  simp_arith [e1, e2, e3, h.reg]
abbrev outerB : S → M Out := (sSeq (sOwn 4 (dCallU 2 f__law_stream [] (aCons (dVar 3) (aCons (dVar 2) aNil))))
    (sSeq (sFor (iR1 (aCons (dC (.int 3)) aNil)) (gNm 5)
    (sSeq (sSet 7 (dCallI 4 1 f__law_number aNil))
    (sIf (dOr (dNot (dTst (dCallU 1 f__law_object_right [] (aCons (dVar 7) aNil)))) (dNot (dTst (dCallU 1 f__law_last_right [] (aCons (dVar 7) aNil)))))
    (sRet (dC (.bl false)))
    sNil)))
    (sSeq (sSet 6 (dBin ixL (dLst (aCons (dC .non) (aCons (dC (.bl true)) (aCons (dC (.bl false)) (aCons (dNeg (dC (.int 1))) (aCons (dC (.int 3)) (aCons (dC (.str "1")) (aCons (dTup (aCons (dC (.int 1)) aNil)) (aCons (dLst aNil) (aCons (dBin powI (dC (.int 10)) (dC (.int 40))) aNil)))))))))) (dCallI 4 2 f__law_draw (aCons (dC (.int 9)) aNil))))
    (sIf (dNot (dTst (dCallB 1 [(8, "_law_errors_right.<locals>.<lambda>")] f__law_errors_right (aCons (dVar 6) aNil))))
    (sRet (dC (.bl false)))
    sNil))))
theorem e_outer {a b x4 x5 x6 x7 : Sl} {k : Nat} {item : Int} (hk : k < 100) : ∃ y4 y5 y6 y7, outerB [a, b, .val (.int k), .val (.int item), x4, x5, x6, x7, .own (.tab qL)] = ok (.nx [a, b, .val (.int k), .val (.int item), y4, y5, y6, y7, .own (.tab qL)]) := by
  obtain ⟨d, e1, s1⟩ := e_stream item k (by omega) (by omega)
  have hr : rngOk (3 : Int) := by decide
  obtain ⟨s', eL, y, z, d', rfl, st⟩ := forL_inv (T := (gNm 5)) (F := innerB) (fun i s => ∃ (y z : Sl) (d' : D), s = [a, b, .val (.int k), .val (.int item), .own d', y, x6, z, .own (.tab qL)] ∧ Strm (i * 130) d') (rangeD 0 (3 : Int).toNat) 0 [a, b, .val (.int k), .val (.int item), .own d, x5, x6, x7, .own (.tab qL)] ⟨_, _, _, rfl, by rw [Nat.zero_mul]; exact s1⟩ (by
    rintro i d0 s hi ⟨y, z, d', rfl, h⟩
    rw [Nat.zero_add] at h ⊢
    have hi2 := (List.getElem?_eq_some_iff.mp hi).1
    rw [rangeD_len] at hi2
    have hi3 : i < 3 := hi2
    obtain ⟨d2, z2, e2, s2⟩ := e_inner (a := a) (b := b) (c := .val (.int k)) (e := .val (.int item)) (f := x6) (g := z) (x := .val d0) h (by omega)
    exact ⟨_, _, rfl, e2, _, _, _, rfl, by rw [Nat.succ_mul]; exact s2⟩)
  rw [rangeD_len] at st
  obtain ⟨r, d2, ed, r0, r9, s2⟩ := e_draw (top := 9) st (by have : (3 : Int).toNat = 3 := rfl; omega) (by decide) (dvSmall (n := 9) (by decide) (by decide))
  obtain ⟨o, eo, g1, g2, g3⟩ := e_odd r r0 r9
  have ee := e_errors g1 g2 g3
  refine ⟨.own d2, y, .val o, z, ?_⟩
  have k1 : (sOwn 4 (dCallU 2 f__law_stream [] (aCons (dVar 3) (aCons (dVar 2) aNil)))) [a, b, .val (.int k), .val (.int item), x4, x5, x6, x7, .own (.tab qL)] = ok (.nx [a, b, .val (.int k), .val (.int item), .own d, x5, x6, x7, .own (.tab qL)]) := by
    simp_arith [e1, s1.reg]
  have k2 : (sFor (iR1 (aCons (dC (.int 3)) aNil)) (gNm 5)
    (sSeq (sSet 7 (dCallI 4 1 f__law_number aNil))
    (sIf (dOr (dNot (dTst (dCallU 1 f__law_object_right [] (aCons (dVar 7) aNil)))) (dNot (dTst (dCallU 1 f__law_last_right [] (aCons (dVar 7) aNil)))))
    (sRet (dC (.bl false)))
    sNil))) [a, b, .val (.int k), .val (.int item), .own d, x5, x6, x7, .own (.tab qL)] = ok (.nx [a, b, .val (.int k), .val (.int item), .own d', y, x6, z, .own (.tab qL)]) := by
    unfold sFor
    have q : (iR1 (aCons (dC (.int 3)) aNil)) [a, b, .val (.int k), .val (.int item), .own d, x5, x6, x7, .own (.tab qL)] = ok (rangeD 0 (3 : Int).toNat, [a, b, .val (.int k), .val (.int item), .own d, x5, x6, x7, .own (.tab qL)]) := by
      simp_arith [hr]
    rw [q, bd_ok']
    exact eL
  have k3 : (sSet 6 (dBin ixL (dLst (aCons (dC .non) (aCons (dC (.bl true)) (aCons (dC (.bl false)) (aCons (dNeg (dC (.int 1))) (aCons (dC (.int 3)) (aCons (dC (.str "1")) (aCons (dTup (aCons (dC (.int 1)) aNil)) (aCons (dLst aNil) (aCons (dBin powI (dC (.int 10)) (dC (.int 40))) aNil)))))))))) (dCallI 4 2 f__law_draw (aCons (dC (.int 9)) aNil)))) [a, b, .val (.int k), .val (.int item), .own d', y, x6, z, .own (.tab qL)] = ok (.nx [a, b, .val (.int k), .val (.int item), .own d2, y, .val o, z, .own (.tab qL)]) := by
    have p40 : powI (.int 10) (.int 40) = ok (.int (10 ^ 40)) := pow10 40 (by decide)
    have s9 : 0 + 1 + 1 + 1 + 1 + 1 + 1 + 1 + 1 + 1 ≤ sizeLine := by
      show 9 ≤ 2 ^ 24
      decide
    have s1 : 0 + 1 ≤ sizeLine := by
      show 1 ≤ 2 ^ 24
      decide
    have s0 : 0 ≤ sizeLine := Nat.zero_le _
    have eo : L2.atI [D.non, .bl true, .bl false, .int (-1), .int 3, .str "1", .tup [.int 1], .lst [], .int (10 ^ 40)] r = some o := eo
    generalize (10 : Int) ^ 40 = T40 at p40 eo
    simp_arith [p40, s9, s1, s0, ed, eo, st.reg]
  have k4 : (sIf (dNot (dTst (dCallB 1 [(8, "_law_errors_right.<locals>.<lambda>")] f__law_errors_right (aCons (dVar 6) aNil))))
    (sRet (dC (.bl false)))
    sNil) [a, b, .val (.int k), .val (.int item), .own d2, y, .val o, z, .own (.tab qL)] = ok (.nx [a, b, .val (.int k), .val (.int item), .own d2, y, .val o, z, .own (.tab qL)]) := by
    have q := callB_ev (n := 1) (ix := [(8, "_law_errors_right.<locals>.<lambda>")]) (g := f__law_errors_right) (fr := (aCons (dVar 6) aNil)) (s := [a, b, .val (.int k), .val (.int item), .own d2, y, .val o, z, .own (.tab qL)]) (s' := [a, b, .val (.int k), .val (.int item), .own d2, y, .val o, z, .own (.tab qL)]) (ds := [o]) rfl rfl rfl ee
    generalize dCallB 1 [(8, "_law_errors_right.<locals>.<lambda>")] f__law_errors_right (aCons (dVar 6) aNil) = F at q ⊢
    simp_arith [q]
  show sSeq (sOwn 4 (dCallU 2 f__law_stream [] (aCons (dVar 3) (aCons (dVar 2) aNil)))) (sSeq (sFor (iR1 (aCons (dC (.int 3)) aNil)) (gNm 5)
    (sSeq (sSet 7 (dCallI 4 1 f__law_number aNil))
    (sIf (dOr (dNot (dTst (dCallU 1 f__law_object_right [] (aCons (dVar 7) aNil)))) (dNot (dTst (dCallU 1 f__law_last_right [] (aCons (dVar 7) aNil)))))
    (sRet (dC (.bl false)))
    sNil))) (sSeq (sSet 6 (dBin ixL (dLst (aCons (dC .non) (aCons (dC (.bl true)) (aCons (dC (.bl false)) (aCons (dNeg (dC (.int 1))) (aCons (dC (.int 3)) (aCons (dC (.str "1")) (aCons (dTup (aCons (dC (.int 1)) aNil)) (aCons (dLst aNil) (aCons (dBin powI (dC (.int 10)) (dC (.int 40))) aNil)))))))))) (dCallI 4 2 f__law_draw (aCons (dC (.int 9)) aNil)))) (sIf (dNot (dTst (dCallB 1 [(8, "_law_errors_right.<locals>.<lambda>")] f__law_errors_right (aCons (dVar 6) aNil))))
    (sRet (dC (.bl false)))
    sNil))) _ = _
  rw [seq_at k1, seq_at k2, seq_at k3, k4]
theorem e_dgt (k : Nat) (h : k ≤ 2) : f_Ternary_is_digit [.int k] = ok (.bl true) := by
  have e := e_isint k 0 2
  rw [decide_eq_true (show (0 : Int) ≤ k ∧ (k : Int) ≤ 2 by omega)] at e
  simp_arith [f_Ternary_is_digit, b_Ternary_is_digit, e]
theorem TX5 : TX 5 = ("12" : Str) := by
  unfold TX
  have e : (dg 3 5).reverse = [1, 2] := by
    rw [dg_pos (by decide) (by decide), dg_pos (by decide) (by decide), show 5 / 3 / 3 = 0 from rfl, dg_zero]
    rfl
  rw [if_neg (by decide), e]
  decide +kernel
theorem strT {n : Nat} (h : n < 3 ^ 300) : strO "Ternary" f_Ternary_str [TD n] = ok (.str (TX n)) := by
  unfold strO
  dsimp only
  rw [if_pos rfl, e_str_p h]
  rfl
theorem law_true (ns : List Int) (h : ns.length ≤ 63) : f_law [.lst (ns.map D.int)] = ok (.bl true) := by
  have c0 : (iD ns).length + 1 ≤ sizeLine := by
    rw [List.length_map]
    show _ ≤ 2 ^ 24
    omega
  have s1 : 0 + 1 ≤ sizeLine := by
    show 1 ≤ 2 ^ 24
    decide
  have s4 : 0 + 1 + 1 + 1 + 1 ≤ sizeLine := by
    show 4 ≤ 2 ^ 24
    decide
  obtain ⟨ms, ec, hm⟩ := cut_iD (ns ++ [0]) none (some 9)
  have ea : iD ns ++ [.int 0] = iD (ns ++ [0]) := by simp
  generalize hT : D.lst [.bl true, .bl true, .bl true, .int 3] = T
  obtain ⟨t, et⟩ : ∃ t, reprN [T] = ok (.str t) := by
    subst hT
    exact ⟨_, repr_lst (by decide +kernel) (by decide +kernel) (by decide +kernel)⟩
  obtain ⟨s', eL, x2, x3, x4, x5, x6, x7, rfl⟩ := forL_inv (T := (gTp (gsCons (gNm 2) (gsCons (gNm 3) gsNil)))) (F := outerB) (fun i s => ∃ (x2 x3 x4 x5 x6 x7 : Sl), s = [.val (.lst (iD ns)), .val T, x2, x3, x4, x5, x6, x7, .own (.tab qL)]) (enumD 0 (iD ms)) 0 [.val (.lst (iD ns)), .val T, .un, .un, .un, .un, .un, .un, .own (.tab qL)] ⟨_, _, _, _, _, _, rfl⟩ (by
    rintro i d s hi ⟨x2, x3, x4, x5, x6, x7, rfl⟩
    obtain ⟨e, h1, rfl⟩ := enum_at _ _ _ _ hi
    obtain ⟨h2, h3⟩ := List.getElem?_eq_some_iff.mp h1
    rw [List.getElem_map] at h3
    subst h3
    rw [List.length_map] at h2
    rw [List.length_append] at hm
    have hm : ms.length ≤ ns.length + 1 := hm
    obtain ⟨y4, y5, y6, y7, e3⟩ := e_outer (a := .val (.lst (iD ns))) (b := .val T) (x4 := x4) (x5 := x5) (x6 := x6) (x7 := x7) (k := 0 + i) (item := ms[i]) (by omega)
    exact ⟨_, _, rfl, e3, _, _, _, _, _, _, rfl⟩)
  have lcat : catL (.lst (iD ns)) (.lst [.int 0]) = ok (.lst (iD (ns ++ [0]))) := by
    unfold catL
    dsimp only
    rw [if_pos (show (iD ns).length + [D.int 0].length ≤ sizeLine from c0), ea]
  have g0 : f_Ternary_is_digit [.int 0] = ok (.bl true) := e_dgt 0 (by decide)
  have g1 : f_Ternary_is_digit [.int 1] = ok (.bl true) := e_dgt 1 (by decide)
  have g2 : f_Ternary_is_digit [.int 2] = ok (.bl true) := e_dgt 2 (by decide)
  have k1 : (sSet 1 (dLst (aCons (dCallU 1 f_Ternary_is_digit [] (aCons (dC (.int 0)) aNil)) (aCons (dCallU 1 f_Ternary_is_digit [] (aCons (dC (.int 1)) aNil)) (aCons (dCallK 1 0 1 f_Ternary_is_digit (fun as bs => as ++ bs) aNil (aCons (dC (.int 2)) aNil)) (aCons (dC (.int 3)) aNil)))))) [.val (.lst (iD ns)), .un, .un, .un, .un, .un, .un, .un, .own (.tab qL)] = ok (.nx [.val (.lst (iD ns)), .val T, .un, .un, .un, .un, .un, .un, .own (.tab qL)]) := by
    subst hT
    simp_arith [g0, g1, g2, s4]
  have k2 : (sIf (dTst (dBin neS (dCall reprN (aCons (dVar 1) aNil)) (dCall reprN (aCons (dLst (aCons (dC (.bl true)) (aCons (dC (.bl true)) (aCons (dC (.bl true)) (aCons (dC (.int 3)) aNil))))) aNil))))
    (sRet (dC (.bl false)))
    sNil) [.val (.lst (iD ns)), .val T, .un, .un, .un, .un, .un, .un, .own (.tab qL)] = ok (.nx [.val (.lst (iD ns)), .val T, .un, .un, .un, .un, .un, .un, .own (.tab qL)]) := by
    have qq := neSS t
    subst hT
    simp_arith [et, qq, s4]
  have k3 : (sFor (iEn (aCons (dCutL (dBin catL (dVar 0) (dLst (aCons (dC (.int 0)) aNil))) partNo (partAt (dC (.int 9)))) aNil)) (gTp (gsCons (gNm 2) (gsCons (gNm 3) gsNil)))
    (sSeq (sOwn 4 (dCallU 2 f__law_stream [] (aCons (dVar 3) (aCons (dVar 2) aNil))))
    (sSeq (sFor (iR1 (aCons (dC (.int 3)) aNil)) (gNm 5)
    (sSeq (sSet 7 (dCallI 4 1 f__law_number aNil))
    (sIf (dOr (dNot (dTst (dCallU 1 f__law_object_right [] (aCons (dVar 7) aNil)))) (dNot (dTst (dCallU 1 f__law_last_right [] (aCons (dVar 7) aNil)))))
    (sRet (dC (.bl false)))
    sNil)))
    (sSeq (sSet 6 (dBin ixL (dLst (aCons (dC .non) (aCons (dC (.bl true)) (aCons (dC (.bl false)) (aCons (dNeg (dC (.int 1))) (aCons (dC (.int 3)) (aCons (dC (.str "1")) (aCons (dTup (aCons (dC (.int 1)) aNil)) (aCons (dLst aNil) (aCons (dBin powI (dC (.int 10)) (dC (.int 40))) aNil)))))))))) (dCallI 4 2 f__law_draw (aCons (dC (.int 9)) aNil))))
    (sIf (dNot (dTst (dCallB 1 [(8, "_law_errors_right.<locals>.<lambda>")] f__law_errors_right (aCons (dVar 6) aNil))))
    (sRet (dC (.bl false)))
    sNil))))) [.val (.lst (iD ns)), .val T, .un, .un, .un, .un, .un, .un, .own (.tab qL)] = ok (.nx [.val (.lst (iD ns)), .val T, x2, x3, x4, x5, x6, x7, .own (.tab qL)]) := by
    have q : (iEn (aCons (dCutL (dBin catL (dVar 0) (dLst (aCons (dC (.int 0)) aNil))) partNo (partAt (dC (.int 9)))) aNil)) [.val (.lst (iD ns)), .val T, .un, .un, .un, .un, .un, .un, .own (.tab qL)] = ok (enumD 0 (iD ms), [.val (.lst (iD ns)), .val T, .un, .un, .un, .un, .un, .un, .own (.tab qL)]) := by
      simp_arith [dCutL, partNo, partAt, lcat, ec, s1]
    unfold sFor
    rw [q, bd_ok']
    exact eL
  have k4 : (sRet (vAnd (dBin (ownQ "Ternary" f_Ternary_eq id) (dCMethV "Ternary" f_Ternary_from_digits (aCons (dC (.int 1)) (aCons (dC (.int 2)) aNil))) (dMake "Ternary" 2 f_Ternary_init [] (aCons (dC (.int 5)) aNil))) (vAnd (dBin eqS (dCall (strO "Ternary" f_Ternary_str) (aCons (dMake "Ternary" 2 f_Ternary_init [] (aCons (dC (.int 5)) aNil)) aNil)) (dC (.str "12"))) (dBin eqS (dCall (strO "Ternary" f_Ternary_str) (aCons (dMake "Ternary" 2 f_Ternary_init [] (aCons (dC (.int 0)) aNil)) aNil)) (dC (.str "0")))))) [.val (.lst (iD ns)), .val T, x2, x3, x4, x5, x6, x7, .own (.tab qL)] = ok (.rt (.bl true) [.val (.lst (iD ns)), .val T, x2, x3, x4, x5, x6, x7, .own (.tab qL)]) := by
    generalize hs : ([.val (.lst (iD ns)), .val T, x2, x3, x4, x5, x6, x7, .own (.tab qL)] : S) = s
    have a := e_cm (fr := aCons (dC (.int 1)) (aCons (dC (.int 2)) aNil)) (s := s) (s' := s) [2, 1] rfl (by decide) (by decide)
    rw [show vr 3 [2, 1] = 5 from rfl] at a
    have b := e_make (fr := aCons (dC (.int 5)) aNil) (s := s) (s' := s) (n := 5) rfl (by decide)
    have c := e_make (fr := aCons (dC (.int 0)) aNil) (s := s) (s' := s) (n := 0) rfl (by decide)
    have q5 := own_t id 5 5
    rw [decide_eq_true rfl] at q5
    have t5 := strT (n := 5) (by decide)
    have t0 := strT (n := 0) (by decide)
    rw [TX5] at t5
    have z0 : TX 0 = ("0" : Str) := rfl
    rw [z0] at t0
    have y5 := eqSS ("12" : Str)
    have y0 := eqSS ("0" : Str)
    generalize dCMethV "Ternary" f_Ternary_from_digits (aCons (dC (.int 1)) (aCons (dC (.int 2)) aNil)) = F at a ⊢
    generalize dMake "Ternary" 2 f_Ternary_init [] (aCons (dC (.int 5)) aNil) = G at b ⊢
    generalize dMake "Ternary" 2 f_Ternary_init [] (aCons (dC (.int 0)) aNil) = K at c ⊢
    generalize TD 5 = U at *
    generalize TD 0 = V at *
    simp_arith [a, b, c, q5, t5, t0, y5, y0, id]
  refine runB_rt (s := [.val (.lst (iD ns)), .val T, x2, x3, x4, x5, x6, x7, .own (.tab qL)]) ?_ rfl
  show b_law [.val (.lst (iD ns)), .un, .un, .un, .un, .un, .un, .un, .own (.tab qL)] = _
  unfold b_law
  rw [seq_at k1, seq_at k2, seq_at k3, k4]
end Tf
end
namespace Tf
open PySem PySem.Spec PyProof.Rows L2 Dt
def css (K : PySem.W.Frag) : List (Addr × Addr) := [(Dt.tC K "_law_errors_right", Dt.tA K "_law_errors_right")]
theorem facts {P : Program} {w : World} {K : PySem.W.Frag} {h : Heap} {mg : Str → Option Value} {f : Addr} (X : K.In h) (G : h.Ns mainGlobals mg) (hfa : mg ("law" : Str) = some (.ref f)) (c : SaysC fa fn ex K) :
    ∃ fd : FuncData, (∀ (s : Shared) (v : Value), BindsTo s fd ⟨[v], []⟩ [("_law_script", v)]) ∧ ∀ base : Heap, K.In base → base.Ns mainGlobals mg → (∀ p ∈ css K, LamX.TabB base mg p.1 p.2) → ∃ k, k ≤ 40 ∧ FnG P w K mg base (L2.CX P w) k f fd ["_law_script"] (Dt.spB K (cl0 K) 1 (tabs_law K) f_law) := by
  have Z := ctx_of X G c
  obtain ⟨fd, F⟩ : ∃ fd, D_law K fd := c.def_ 14 rfl
  have e := hfa.symm.trans (Z.glo "law" (by decide))
  cases e
  have b := FunD.bindsA (ps := ["_law_script"]) F fun _ _ _ _ _ _ us hl => match us, hl with | [_], _ => rfl
  exact ⟨fd, fun s v => b s [v] rfl, fun base h1 h2 h3 => ⟨_, by decide, ok_law Z ⟨h1, h2, fun x c P hx ht => by
    simp only [tnames, List.mem_cons, List.not_mem_nil, or_false] at hx
    subst hx
    rw [tab_in (ex_33 Z.says)] at ht; cases ht; exact h3 (Dt.tC K "_law_errors_right", Dt.tA K "_law_errors_right") (by simp [css])⟩ F⟩⟩
end Tf
open PyProof.Rows PySem PySem.W PySem.Calls
theorem PySem.Challenge.cw_triplefree_k07_ternary_objects_holds : PySem.Challenge.rw_triplefree_k07_ternary_objects.Holds := by
  w_on; o_law
  refine HandSHeadRun.head_any (r := OpenLaw.row PySem.Challenge.rw_triplefree_k07_ternary_objects) (q := view (OpenLaw.row PySem.Challenge.rw_triplefree_k07_ternary_objects).prog [19, 20]) (H := Tf.hk) (ob := Tf.ob) (M := 40000) (loose := Tf.loose) (d := HandSHeadRun.topDef (OpenLaw.row PySem.Challenge.rw_triplefree_k07_ternary_objects).prog 20) (kwd := []) Tf.ob_eq
    (by kernel_rfl) (fun s => by kernel_rfl) Tf.run (by kernel_rfl) (by kernel_rfl) (by kernel_rfl) (by rfl) (by first | assumption | decide +kernel) (by decide +kernel) ⟨rfl, rfl, rfl, rfl, rfl, by decide +kernel⟩ ?hw ?hc
  case hw => w_witness2
  case hc =>
    refine Dt.walk_GT (l := PySem.Challenge.rw_triplefree_k07_ternary_objects) (n := 63) (k := 40) (x := "_law_script") rfl (by decide) (by kernel_rfl) ⟨rfl, by decide, by decide⟩ ?F
    intro w mg fa h Y G hmg0 TT
    obtain ⟨K, KX, c⟩ := Y
    have hmg
          : mg ("law" : PySem.Str) = some (.ref fa) := by
      have e : (HandSHeadRun.topDef (OpenLaw.row PySem.Challenge.rw_triplefree_k07_ternary_objects).prog 20).name = ("law" : PySem.Str) := by kernel_rfl
      rw [← e]
      exact hmg0
    have Zs : Tf.Ctx K mg := Tf.ctx_of KX G c
    obtain ⟨fd, hb, hF⟩ := Tf.facts (P := (PySem.Challenge.rw_triplefree_k07_ternary_objects).prog) (w := w) KX G hmg c
    have tin__law_errors_right := Dt.tab_in (Tf.ex_33 Zs.says)
    have tno__law_errors_right := Dt.tab_no (Tf.ex_33 Zs.says)
    have tt__law_errors_right := TT K KX "_law_errors_right" (HandSHeadRun.topDef (OpenLaw.row PySem.Challenge.rw_triplefree_k07_ternary_objects).prog 19) _ _ (by kernel_rfl) tin__law_errors_right
    exact ⟨K, fd, Tf.cl0 K, Tf.f_law, Tf.css K, Tf.tabs_law K, KX, hb, Tf.law_true, rfl, (List.forall_mem_cons.mpr ⟨tt__law_errors_right.2, fun _ h => absurd h (List.not_mem_nil)⟩), (List.forall_mem_cons.mpr ⟨tno__law_errors_right, fun _ h => absurd h (List.not_mem_nil)⟩), (List.forall_mem_cons.mpr ⟨tt__law_errors_right.1, fun _ h => absurd h (List.not_mem_nil)⟩), fun base h1 h2 h3 => by
      obtain ⟨k, hk, F0⟩ := hF base h1 h2 h3
      exact F0.mono hk⟩
