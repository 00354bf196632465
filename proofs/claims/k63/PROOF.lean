import PyProof.Rows.All
import Wide.All
import OpenK.AllK
import Wide.FinOn
import HandS.ForMost
import HandS.Defaults
import HandS.TupAny
import HandS.IsInst
import HandS.SortInts
import HandS.More
import PyProof.ListMulRoad
import PyProof.FactsAll.tuple_2
import HandS.TupMul
import HandS.DictComp
import HandS.DictTup
import HandS.Conv
import HandS.AnyAll
import HandS.GenList
import PySem.Challenge.RW_mintlaw_k63_whole_only_forgeries_gain
import HandS.Head0
import HandS.Head1
import HandS.Head2
import HandS.HeadEnd
import HandS.HeadHook4
import HandS.HeadWalk
import HandS.EndTab
import KE.KStateDown
set_option Elab.async false
set_option linter.all false
set_option maxRecDepth 100000
/-! Data layer, part 1: data, memory, what represents them, the judgements over data. -/
namespace DL
open PySem PySem.Spec PyProof.Rows L2

/-- data: tuples and lists that stand still are values; ref a: an object that may change; scr: the script -/
inductive D where
  | non | bl (b : Bool) | int (i : Int) | str (x : Str) | tup (ds : List D) | lst (ds : List D) | ref (a : Addr) | ty (n : String) | scr (ns : List Int)
/-- objects that may change; tab: a code object's table -/
inductive MO where
  | lst (ds : List D) | dK (kvs : List (Key × D)) | dT (kvs : List (List Key × D)) | ins (C : Addr) (fs : List (Str × D)) | tab
abbrev Mem := Addr → Option MO
def Mem.put (μ : Mem) (a : Addr) (o : MO) : Mem := fun b => if b = a then some o else μ b
theorem Mem.put_same {μ : Mem} {a : Addr} {o : MO} : μ.put a o a = some o := by unfold Mem.put; rw [if_pos rfl]
theorem Mem.put_ne {μ : Mem} {a b : Addr} {o : MO} (h : b ≠ a) : μ.put a o b = μ b := by unfold Mem.put; rw [if_neg h]
theorem Mem.put_put {μ : Mem} {a : Addr} {o u : MO} : (μ.put a o).put a u = μ.put a u := by
  funext b; unfold Mem.put; split <;> rfl
theorem Mem.put_comm {μ : Mem} {a b : Addr} {o u : MO} (h : a ≠ b) : (μ.put a o).put b u = (μ.put b u).put a o := by
  funext c; unfold Mem.put
  by_cases h1 : c = b
  · by_cases h2 : c = a
    · exact absurd (h2.symm.trans h1) h
    · rw [if_pos h1, if_neg h2, if_pos h1]
  · rw [if_neg h1]
    by_cases h2 : c = a
    · rw [if_pos h2, if_pos h2]
    · rw [if_neg h2, if_neg h2, if_neg h1]

mutual
inductive Rep (K : PySem.W.Frag) (μ : Mem) (H : Hp) : V → D → Prop
  | non : Rep K μ H .non .non
  | bl (b : Bool) : Rep K μ H (.bl b) (.bl b)
  | int (i : Int) : Rep K μ H (.int i) (.int i)
  | str (x : Str) : Rep K μ H (.str x) (.str x)
  | ref (a : Addr) : Rep K μ H (.ref a) (.ref a)
  | ty (n : String) : Rep K μ H (.ty n) (.ty n)
  | scr {a : Addr} {ns : List Int} (h : (Rd H a (.lst (ns.map V.int)) ∧ μ a = none) ∨ ∀ H', SqL K H' a (ns.map V.int)) : Rep K μ H (.ref a) (.scr ns)
  | tup {a : Addr} {vs : List V} {ds : List D} (h : H a = some (.tup vs)) (m : μ a = none) (r : Reps K μ H vs ds) : Rep K μ H (.ref a) (.tup ds)
  | lst {a : Addr} {vs : List V} {ds : List D} (h : H a = some (.lst vs)) (m : μ a = none) (r : Reps K μ H vs ds) : Rep K μ H (.ref a) (.lst ds)
inductive Reps (K : PySem.W.Frag) (μ : Mem) (H : Hp) : List V → List D → Prop
  | nil : Reps K μ H [] []
  | cons {v : V} {d : D} {vs : List V} {ds : List D} (h : Rep K μ H v d) (r : Reps K μ H vs ds) : Reps K μ H (v :: vs) (d :: ds)
end
/-- a mapping's pairs -/
def RKV {κ : Type} (K : PySem.W.Frag) (μ : Mem) (H : Hp) : List (κ × V) → List (κ × D) → Prop := Paired fun p q => p.1 = q.1 ∧ Rep K μ H p.2 q.2
def MRep (K : PySem.W.Frag) (μ : Mem) (H : Hp) (a : Addr) : MO → Prop
  | .lst ds => ∃ vs, H a = some (.lst vs) ∧ Reps K μ H vs ds
  | .dK kvs => ∃ ws, H a = some (.dK ws) ∧ RKV K μ H ws kvs
  | .dT kvs => ∃ ws, H a = some (.dT ws) ∧ RKV K μ H ws kvs
  | .ins C fs => ∃ dx ws, H a = some (.ins C dx ws) ∧ RKV K μ H ws fs
  | .tab => ∃ ps : Array Value, H a = some (.tbl ps) ∧ TriplesOk ps.toList
def Sat (K : PySem.W.Frag) (μ : Mem) (H : Hp) : Prop := ∀ a o, μ a = some o → MRep K μ H a o
/-- all that is tracked and no object of the memory stands as before -/
def Keep (μ : Mem) (H : Hp) (μ' : Mem) (H' : Hp) : Prop := ∀ b o, H b = some o → μ b = none → H' b = some o ∧ μ' b = none
section
variable {K : PySem.W.Frag} {μ μ' μ1 μ2 : Mem} {H H' H1 H2 : Hp}
theorem Keep.refl : Keep μ H μ H := fun _ _ h m => ⟨h, m⟩
theorem Keep.trans (a : Keep μ H μ1 H1) (b : Keep μ1 H1 μ2 H2) : Keep μ H μ2 H2 := fun c o h m => b c o (a c o h m).1 (a c o h m).2
mutual
theorem Rep.keep (k : Keep μ H μ' H') : ∀ {v : V} {d : D}, Rep K μ H v d → Rep K μ' H' v d
  | _, _, .non => .non
  | _, _, .bl b => .bl b
  | _, _, .int i => .int i
  | _, _, .str x => .str x
  | _, _, .ref a => .ref a
  | _, _, .ty n => .ty n
  | _, _, .scr h => .scr (by
      rcases h with ⟨h | ⟨o, h⟩, m⟩ | h
      · exact .inl ⟨.inl (k _ _ h m).1, (k _ _ h m).2⟩
      · exact .inl ⟨.inr ⟨o, (k _ _ h m).1⟩, (k _ _ h m).2⟩
      · exact .inr h)
  | _, _, .tup h m r => .tup (k _ _ h m).1 (k _ _ h m).2 (Reps.keep k r)
  | _, _, .lst h m r => .lst (k _ _ h m).1 (k _ _ h m).2 (Reps.keep k r)
theorem Reps.keep (k : Keep μ H μ' H') : ∀ {vs : List V} {ds : List D}, Reps K μ H vs ds → Reps K μ' H' vs ds
  | _, _, .nil => .nil
  | _, _, .cons h r => .cons (Rep.keep k h) (Reps.keep k r)
end
theorem RKV.keep {κ : Type} (k : Keep μ H μ' H') {ws : List (κ × V)} {kvs : List (κ × D)} (h : RKV K μ H ws kvs) : RKV K μ' H' ws kvs := Paired.mapP h fun _ _ ⟨a, b⟩ => ⟨a, b.keep k⟩
theorem Reps.length : ∀ {vs : List V} {ds : List D}, Reps K μ H vs ds → vs.length = ds.length
  | _, _, .nil => rfl
  | _, _, .cons _ r => congrArg (· + 1) r.length
theorem Reps.get : ∀ {vs : List V} {ds : List D} {i : Nat} {d : D}, Reps K μ H vs ds → ds[i]? = some d → ∃ v, vs[i]? = some v ∧ Rep K μ H v d
  | _, _, _, _, .nil, e => by simp at e
  | _, _, 0, _, .cons h _, e => by simp at e; subst e; exact ⟨_, rfl, h⟩
  | _, _, i + 1, d, .cons _ r, e => by
    obtain ⟨v, h1, h2⟩ := Reps.get (i := i) (d := d) r (by simpa using e)
    exact ⟨v, by simpa using h1, h2⟩
theorem Reps.getV : ∀ {vs : List V} {ds : List D} {i : Nat} {v : V}, Reps K μ H vs ds → vs[i]? = some v → ∃ d, ds[i]? = some d ∧ Rep K μ H v d
  | _, _, _, _, .nil, e => by simp at e
  | _, _, 0, _, .cons h _, e => by simp at e; subst e; exact ⟨_, rfl, h⟩
  | _, _, i + 1, v, .cons _ r, e => by
    obtain ⟨d, h1, h2⟩ := Reps.getV (i := i) (v := v) r (by simpa using e)
    exact ⟨d, by simpa using h1, h2⟩
theorem Reps.append : ∀ {vs ws : List V} {ds es : List D}, Reps K μ H vs ds → Reps K μ H ws es → Reps K μ H (vs ++ ws) (ds ++ es)
  | _, _, _, _, .nil, s => s
  | _, _, _, _, .cons h r, s => .cons h (Reps.append r s)
theorem Reps.take : ∀ {vs : List V} {ds : List D} (n : Nat), Reps K μ H vs ds → Reps K μ H (vs.take n) (ds.take n)
  | _, _, 0, _ => .nil
  | _, _, _ + 1, .nil => .nil
  | _, _, n + 1, .cons h r => .cons h (Reps.take n r)
theorem Reps.drop : ∀ {vs : List V} {ds : List D} (n : Nat), Reps K μ H vs ds → Reps K μ H (vs.drop n) (ds.drop n)
  | _, _, 0, r => r
  | _, _, _ + 1, .nil => .nil
  | _, _, n + 1, .cons _ r => Reps.drop n r
theorem Reps.set {v : V} {d : D} (h : Rep K μ H v d) : ∀ {vs : List V} {ds : List D} (i : Nat), Reps K μ H vs ds → Reps K μ H (vs.set i v) (ds.set i d)
  | _, _, _, .nil => .nil
  | _, _, 0, .cons _ r => .cons h r
  | _, _, i + 1, .cons q r => .cons q (Reps.set h i r)
theorem Reps.rep {vs : List V} {ds : List D} (h : Reps K μ H vs ds) : ∀ n : Nat, Reps K μ H (List.replicate n vs).flatten (List.replicate n ds).flatten
  | 0 => .nil
  | n + 1 => by
    rw [List.replicate_succ, List.replicate_succ, List.flatten_cons, List.flatten_cons]
    exact h.append (Reps.rep h n)
theorem Rep.int_eq {v : V} {i : Int} (h : Rep K μ H v (.int i)) : v = .int i := by cases h; rfl
theorem Rep.bl_eq {v : V} {b : Bool} (h : Rep K μ H v (.bl b)) : v = .bl b := by cases h; rfl
theorem Rep.str_eq {v : V} {x : Str} (h : Rep K μ H v (.str x)) : v = .str x := by cases h; rfl
theorem Rep.non_eq {v : V} (h : Rep K μ H v .non) : v = .non := by cases h; rfl
theorem Rep.ref_eq {v : V} {a : Addr} (h : Rep K μ H v (.ref a)) : v = .ref a := by cases h; rfl
theorem Rep.tup_at {v : V} {ds : List D} (h : Rep K μ H v (.tup ds)) : ∃ a vs, v = .ref a ∧ H a = some (.tup vs) ∧ μ a = none ∧ Reps K μ H vs ds := by
  cases h with
  | tup h m r => exact ⟨_, _, rfl, h, m, r⟩
theorem Rep.lst_at {v : V} {ds : List D} (h : Rep K μ H v (.lst ds)) : ∃ a vs, v = .ref a ∧ H a = some (.lst vs) ∧ μ a = none ∧ Reps K μ H vs ds := by
  cases h with
  | lst h m r => exact ⟨_, _, rfl, h, m, r⟩
theorem Reps.ints : ∀ {vs : List V} {ns : List Int}, Reps K μ H vs (ns.map D.int) → vs = ns.map V.int
  | _, [], .nil => rfl
  | _, n :: ns, .cons h r => by
    rw [h.int_eq, Reps.ints r]
    rfl
theorem Reps.bls : ∀ {vs : List V} {ns : List Bool}, Reps K μ H vs (ns.map D.bl) → vs = ns.map V.bl
  | _, [], .nil => rfl
  | _, n :: ns, .cons h r => by
    rw [h.bl_eq, Reps.bls r]
    rfl
theorem Reps.strs : ∀ {vs : List V} {ns : List Str}, Reps K μ H vs (ns.map D.str) → vs = ns.map V.str
  | _, [], .nil => rfl
  | _, n :: ns, .cons h r => by
    rw [h.str_eq, Reps.strs r]
    rfl
theorem Reps.ofInts : ∀ (ns : List Int), Reps K μ H (ns.map V.int) (ns.map D.int)
  | [] => .nil
  | n :: ns => .cons (.int n) (Reps.ofInts ns)
theorem Sat.fresh (s : Sat K μ H) {p : Addr} (h : H p = none) : μ p = none := by
  cases e : μ p with
  | none => rfl
  | some o =>
    have q := s p o e
    cases o with
    | lst ds => obtain ⟨vs, h1, _⟩ := q; rw [h] at h1; cases h1
    | dK ds => obtain ⟨vs, h1, _⟩ := q; rw [h] at h1; cases h1
    | dT ds => obtain ⟨vs, h1, _⟩ := q; rw [h] at h1; cases h1
    | ins C ds => obtain ⟨dx, vs, h1, _⟩ := q; rw [h] at h1; cases h1
    | tab => obtain ⟨vs, h1, _⟩ := q; rw [h] at h1; cases h1
theorem MRep.keep (k : Keep μ H μ' H') {a : Addr} {o : MO} (h : MRep K μ H a o) (e : H' a = H a) : MRep K μ' H' a o := by
  cases o with
  | lst ds => obtain ⟨vs, h1, r⟩ := h; exact ⟨vs, e.trans h1, r.keep k⟩
  | dK ds => obtain ⟨vs, h1, r⟩ := h; exact ⟨vs, e.trans h1, r.keep k⟩
  | dT ds => obtain ⟨vs, h1, r⟩ := h; exact ⟨vs, e.trans h1, r.keep k⟩
  | ins C ds => obtain ⟨dx, vs, h1, r⟩ := h; exact ⟨dx, vs, e.trans h1, r.keep k⟩
  | tab => obtain ⟨vs, h1, r⟩ := h; exact ⟨vs, e.trans h1, r⟩
/-- a tracked tuple is no object of the memory -/
theorem Sat.tup {a : Addr} {vs : List V} (s : Sat K μ H) (h : H a = some (.tup vs)) : μ a = none := by
  cases e : μ a with
  | none => rfl
  | some o =>
    have q := s a o e
    cases o with
    | lst ds => obtain ⟨vs, h1, _⟩ := q; rw [h] at h1; cases h1
    | dK ds => obtain ⟨vs, h1, _⟩ := q; rw [h] at h1; cases h1
    | dT ds => obtain ⟨vs, h1, _⟩ := q; rw [h] at h1; cases h1
    | ins C ds => obtain ⟨dx, vs, h1, _⟩ := q; rw [h] at h1; cases h1
    | tab => obtain ⟨vs, h1, _⟩ := q; rw [h] at h1; cases h1
/-- a new object that stands still -/
theorem Keep.new {p : Addr} {o : HO} (h : H p = none) : Keep μ H μ (upd H p o) := fun b u e m => ⟨by rw [upd_ne (ne_of_none e h)]; exact e, m⟩
theorem Sat.new {p : Addr} {o : HO} (s : Sat K μ H) (h : H p = none) : Sat K μ (upd H p o) := fun a u e => by
  refine (s a u e).keep (Keep.new h) (upd_ne fun q => ?_)
  subst q
  rw [s.fresh h] at e
  cases e
/-- a new object of the memory -/
theorem Keep.newM {p : Addr} {o : HO} {m : MO} (h : H p = none) : Keep μ H (μ.put p m) (upd H p o) := fun b u e n => by
  have hb := ne_of_none e h
  exact ⟨by rw [upd_ne hb]; exact e, by rw [Mem.put_ne hb]; exact n⟩
theorem Sat.newM {p : Addr} {o : HO} {m : MO} (s : Sat K μ H) (h : H p = none) (q : MRep K (μ.put p m) (upd H p o) p m) : Sat K (μ.put p m) (upd H p o) := fun a u e => by
  by_cases ha : a = p
  · subst ha
    rw [Mem.put_same] at e
    cases e
    exact q
  · rw [Mem.put_ne ha] at e
    exact (s a u e).keep (Keep.newM h) (upd_ne ha)
/-- an object of the memory changes -/
theorem Keep.setM {p : Addr} {o : HO} {m m0 : MO} (h : μ p = some m0) : Keep μ H (μ.put p m) (upd H p o) := fun b u e n => by
  have hb : b ≠ p := fun q => by subst q; rw [h] at n; cases n
  exact ⟨by rw [upd_ne hb]; exact e, by rw [Mem.put_ne hb]; exact n⟩
theorem Sat.setM {p : Addr} {o : HO} {m m0 : MO} (s : Sat K μ H) (h : μ p = some m0) (q : MRep K (μ.put p m) (upd H p o) p m) : Sat K (μ.put p m) (upd H p o) := fun a u e => by
  by_cases ha : a = p
  · subst ha
    rw [Mem.put_same] at e
    cases e
    exact q
  · rw [Mem.put_ne ha] at e
    exact (s a u e).keep (Keep.setM h) (upd_ne ha)
/-- an object leaves the memory: it stands still from now on, or nobody speaks of it -/
def Sub (μ' μ : Mem) : Prop := ∀ a o, μ' a = some o → μ a = some o
theorem Sub.none {a : Addr} (h : Sub μ' μ) (e : μ a = none) : μ' a = none := by
  cases q : μ' a with
  | none => rfl
  | some o => rw [h a o q] at e; cases e
theorem Keep.sub (h : Sub μ' μ) : Keep μ H μ' H := fun b u e n => ⟨e, h.none n⟩
theorem Sat.sub (s : Sat K μ H) (h : Sub μ' μ) : Sat K μ' H := fun a o e => (s a o (h a o e)).keep (Keep.sub h) rfl
theorem sub_put {p : Addr} {o : MO} (h : μ p = none) : Sub μ (μ.put p o) := fun a u e => by
  rw [Mem.put_ne (fun q => by subst q; rw [h] at e; cases e)]
  exact e
theorem Sub.refl : Sub μ μ := fun _ _ e => e
theorem Sub.trans (a : Sub μ μ1) (b : Sub μ1 μ2) : Sub μ μ2 := fun c o e => b c o (a c o e)
end

/-! ### slots -/
abbrev DS := List (Option D)
structure SR (K : PySem.W.Frag) (μ : Mem) (H : Hp) (σ : L2.St) (δ : DS) : Prop where
  len : σ.length = δ.length
  at_ : ∀ (i : Nat) (d : D), δ[i]? = some (some d) → ∃ v, σ[i]? = some (some v) ∧ Rep K μ H v d
section
variable {K : PySem.W.Frag} {μ μ' : Mem} {H H' : Hp} {σ : L2.St} {δ : DS}
theorem SR.keep (k : Keep μ H μ' H') (h : SR K μ H σ δ) : SR K μ' H' σ δ := ⟨h.len, fun i d e => let ⟨v, a, b⟩ := h.at_ i d e; ⟨v, a, b.keep k⟩⟩
theorem SR.set {v : V} {d : D} (h : SR K μ H σ δ) (r : Rep K μ H v d) (i : Nat) : SR K μ H (σ.set i (some v)) (δ.set i (some d)) := by
  refine ⟨by rw [List.length_set, List.length_set]; exact h.len, fun j e q => ?_⟩
  by_cases hj : i = j
  · subst hj
    have hi : i < δ.length := by
      have := (List.getElem?_eq_some_iff.mp q).1
      rwa [List.length_set] at this
    rw [List.getElem?_set_self hi] at q
    cases q
    exact ⟨v, List.getElem?_set_self (by rw [h.len]; exact hi), r⟩
  · rw [List.getElem?_set_ne hj] at q ⊢
    exact h.at_ j e q
theorem SR.unset (h : SR K μ H σ δ) (i : Nat) : SR K μ H (σ.set i none) (δ.set i none) := by
  refine ⟨by rw [List.length_set, List.length_set]; exact h.len, fun j e q => ?_⟩
  by_cases hj : i = j
  · subst hj
    have hi : i < δ.length := by
      have := (List.getElem?_eq_some_iff.mp q).1
      rwa [List.length_set] at this
    rw [List.getElem?_set_self hi] at q
    cases q
  · rw [List.getElem?_set_ne hj] at q ⊢
    exact h.at_ j e q
def wipeD (δ : DS) : List Nat → DS
  | [] => δ
  | v :: vs => (wipeD δ vs).set v none
theorem SR.wipe (h : SR K μ H σ δ) : ∀ vs : List Nat, SR K μ H (wipe σ vs) (wipeD δ vs)
  | [] => h
  | v :: vs => (SR.wipe h vs).unset v
def startD (N : List Str) (ds : List D) : DS := ds.map some ++ List.replicate (N.length - ds.length) none
theorem SR.start {N : List Str} {vs : List V} {ds : List D} (r : Reps K μ H vs ds) : SR K μ H (start N vs) (startD N ds) := by
  have hl := r.length
  refine ⟨by unfold L2.start startD; simp [hl], fun i d e => ?_⟩
  unfold startD at e
  by_cases hi : i < ds.length
  · rw [List.getElem?_append_left (by simpa using hi), List.getElem?_map] at e
    cases q : ds[i]? with
    | none => rw [q] at e; cases e
    | some d' =>
      rw [q] at e
      have e2 : d' = d := Option.some.inj (Option.some.inj e)
      subst e2
      obtain ⟨v, h1, h2⟩ := r.get q
      refine ⟨v, ?_, h2⟩
      unfold L2.start
      rw [List.getElem?_append_left (by rw [List.length_map, hl]; exact hi), List.getElem?_map, h1]
      rfl
  · rw [List.getElem?_append_right (by simpa using hi), List.getElem?_replicate] at e
    split at e <;> cases e
end

/-! ### any rule at all -/
section
variable (X : Cx)
def WE (e : Expr) : TE := fun σ H Q => ∃ te, PE X e te ∧ te σ H Q
def WT (e : Expr) : TT := fun σ H Q => ∃ te, PT X e te ∧ te σ H Q
def WW (e : Expr) : TT := fun σ H Q => ∃ te, PW X e te ∧ te σ H Q
def WTs (ifs : List Expr) : TT := fun σ H Q => ∃ te, PTs X ifs te ∧ te σ H Q
def WA (es : List Expr) : TA := fun σ H Q => ∃ te, PA X es te ∧ te σ H Q
def WS (st : Stmt) : TS := fun D σ H => ∃ te, PS X st te ∧ te D σ H
def WSs (ss : List Stmt) : TS := fun D σ H => ∃ te, PSs X ss te ∧ te D σ H
def WG (tg : Expr) : TG := fun v σ H Q => ∃ g, PG X tg g ∧ g v σ H Q
def WI (tg it : Expr) : TI := fun σ H R => ∃ t, PI X tg it t ∧ t σ H R
end
section
variable {X : Cx}
theorem pe_we (e : Expr) : PE X e (WE X e) := ⟨fun pins s σ H Q I ⟨_, h, q⟩ => h.run pins s σ H Q I q⟩
theorem pt_wt (e : Expr) : PT X e (WT X e) := ⟨fun pins s σ H Q I ⟨_, h, q⟩ => h.run pins s σ H Q I q⟩
theorem pw_ww (e : Expr) : PW X e (WW X e) := ⟨fun wh pins s σ H Q I ⟨_, h, q⟩ => h.run wh pins s σ H Q I q⟩
theorem pts_w (e : List Expr) : PTs X e (WTs X e) := ⟨fun pins s σ H Q I ⟨_, h, q⟩ => h.run pins s σ H Q I q⟩
theorem pa_wa (e : List Expr) : PA X e (WA X e) := ⟨fun pos pins s σ H Q I ⟨_, h, q⟩ => h.run pos pins s σ H Q I q⟩
theorem ps_ws (e : Stmt) : PS X e (WS X e) := ⟨fun pins s σ H D I ⟨_, h, q⟩ => h.run pins s σ H D I q⟩
theorem pss_wss (e : List Stmt) : PSs X e (WSs X e) := ⟨fun pins s σ H D I ⟨_, h, q⟩ => h.run pins s σ H D I q⟩
end

/-! ### the judgements over data -/
/-- what is wanted of a value (a test, arguments) and the memory behind it -/
def VK (K : PySem.W.Frag) (μ : Mem) (H : Hp) (k : D → Mem → Prop) (Q : L2.VK) : Prop := ∀ v d μ' H', k d μ' → Keep μ H μ' H' → Sat K μ' H' → Rep K μ' H' v d → Q v H'
def TK (K : PySem.W.Frag) (μ : Mem) (H : Hp) (k : Bool → Mem → Prop) (Q : Bool → Hp → Prop) : Prop := ∀ b μ' H', k b μ' → Keep μ H μ' H' → Sat K μ' H' → Q b H'
def AK (K : PySem.W.Frag) (μ : Mem) (H : Hp) (k : List D → Mem → Prop) (Q : List V → Hp → Prop) : Prop := ∀ vs ds μ' H', k ds μ' → Keep μ H μ' H' → Sat K μ' H' → Reps K μ' H' vs ds → Q vs H'
def EV (X : Cx) (e : Expr) (δ : DS) (μ : Mem) (k : D → Mem → Prop) : Prop := ∀ σ H Q, SR X.K μ H σ δ → Sat X.K μ H → VK X.K μ H k Q → WE X e σ H Q
def TV (X : Cx) (e : Expr) (δ : DS) (μ : Mem) (k : Bool → Mem → Prop) : Prop := ∀ σ H Q, SR X.K μ H σ δ → Sat X.K μ H → TK X.K μ H k Q → WT X e σ H Q
def WV (X : Cx) (e : Expr) (δ : DS) (μ : Mem) (k : Bool → Mem → Prop) : Prop := ∀ σ H Q, SR X.K μ H σ δ → Sat X.K μ H → TK X.K μ H k Q → WW X e σ H Q
def AV (X : Cx) (es : List Expr) (δ : DS) (μ : Mem) (k : List D → Mem → Prop) : Prop := ∀ σ H Q, SR X.K μ H σ δ → Sat X.K μ H → AK X.K μ H k Q → WA X es σ H Q
structure DE where
  nx : DS → Mem → Prop
  rt : D → Mem → Prop
  bk : DS → Mem → Prop := fun _ _ => False
  ct : DS → Mem → Prop := fun _ _ => False
def NK (K : PySem.W.Frag) (μ : Mem) (H : Hp) (k : DS → Mem → Prop) (Q : L2.St → Hp → Prop) : Prop := ∀ σ' δ' μ' H', k δ' μ' → Keep μ H μ' H' → Sat K μ' H' → SR K μ' H' σ' δ' → Q σ' H'
structure EK (K : PySem.W.Frag) (μ : Mem) (H : Hp) (k : DE) (E : Ends) : Prop where
  nx : NK K μ H k.nx E.nx
  rt : VK K μ H k.rt E.rt
  bk : NK K μ H k.bk E.bk
  ct : NK K μ H k.ct E.ct
def SV (X : Cx) (ss : List Stmt) (δ : DS) (μ : Mem) (k : DE) : Prop := ∀ σ H E, SR X.K μ H σ δ → Sat X.K μ H → EK X.K μ H k E → WSs X ss E σ H
def S1 (X : Cx) (st : Stmt) (δ : DS) (μ : Mem) (k : DE) : Prop := ∀ σ H E, SR X.K μ H σ δ → Sat X.K μ H → EK X.K μ H k E → WS X st E σ H
/-- a value that is known -/
abbrev Is (d : D) (μ : Mem) : D → Mem → Prop := fun d' μ' => d' = d ∧ μ' = μ
abbrev IsB (b : Bool) (μ : Mem) : Bool → Mem → Prop := fun d' μ' => d' = b ∧ μ' = μ
abbrev IsA (ds : List D) (μ : Mem) : List D → Mem → Prop := fun d' μ' => d' = ds ∧ μ' = μ
section
variable {K : PySem.W.Frag} {μ μ' μ1 : Mem} {H H' H1 : Hp}
theorem VK.keep {k : D → Mem → Prop} {Q : L2.VK} (h : VK K μ H k Q) (e : Keep μ H μ' H') : VK K μ' H' k Q := fun v d μ2 H2 a b c r => h v d μ2 H2 a (e.trans b) c r
theorem TK.keep {k : Bool → Mem → Prop} {Q : Bool → Hp → Prop} (h : TK K μ H k Q) (e : Keep μ H μ' H') : TK K μ' H' k Q := fun v μ2 H2 a b c => h v μ2 H2 a (e.trans b) c
theorem AK.keep {k : List D → Mem → Prop} {Q : List V → Hp → Prop} (h : AK K μ H k Q) (e : Keep μ H μ' H') : AK K μ' H' k Q := fun v d μ2 H2 a b c r => h v d μ2 H2 a (e.trans b) c r
theorem NK.keep {k : DS → Mem → Prop} {Q : L2.St → Hp → Prop} (h : NK K μ H k Q) (e : Keep μ H μ' H') : NK K μ' H' k Q := fun v d μ2 H2 a b c r => h v d μ2 H2 a (e.trans b) c r
theorem EK.keep {k : DE} {E : Ends} (h : EK K μ H k E) (e : Keep μ H μ' H') : EK K μ' H' k E := ⟨h.nx.keep e, h.rt.keep e, h.bk.keep e, h.ct.keep e⟩
end
section
variable {X : Cx} {e : Expr} {δ : DS} {μ μ1 : Mem}
theorem EV.mono {k k' : D → Mem → Prop} (h : EV X e δ μ k) (w : ∀ d μ', k d μ' → k' d μ') : EV X e δ μ k' := fun σ H Q a b c => h σ H Q a b fun v d μ' H' q => c v d μ' H' (w d μ' q)
theorem TV.mono {k k' : Bool → Mem → Prop} (h : TV X e δ μ k) (w : ∀ d μ', k d μ' → k' d μ') : TV X e δ μ k' := fun σ H Q a b c => h σ H Q a b fun v μ' H' q => c v μ' H' (w v μ' q)
theorem WV.mono {k k' : Bool → Mem → Prop} (h : WV X e δ μ k) (w : ∀ d μ', k d μ' → k' d μ') : WV X e δ μ k' := fun σ H Q a b c => h σ H Q a b fun v μ' H' q => c v μ' H' (w v μ' q)
theorem AV.mono {es : List Expr} {k k' : List D → Mem → Prop} (h : AV X es δ μ k) (w : ∀ d μ', k d μ' → k' d μ') : AV X es δ μ k' := fun σ H Q a b c => h σ H Q a b fun v d μ' H' q => c v d μ' H' (w d μ' q)
theorem EV.is {d : D} {k : D → Mem → Prop} (h : EV X e δ μ (Is d μ1)) (q : k d μ1) : EV X e δ μ k := h.mono fun _ _ ⟨a, b⟩ => by rw [a, b]; exact q
theorem TV.is {d : Bool} {k : Bool → Mem → Prop} (h : TV X e δ μ (IsB d μ1)) (q : k d μ1) : TV X e δ μ k := h.mono fun _ _ ⟨a, b⟩ => by rw [a, b]; exact q
theorem WV.is {d : Bool} {k : Bool → Mem → Prop} (h : WV X e δ μ (IsB d μ1)) (q : k d μ1) : WV X e δ μ k := h.mono fun _ _ ⟨a, b⟩ => by rw [a, b]; exact q
theorem AV.is {es : List Expr} {ds : List D} {k : List D → Mem → Prop} (h : AV X es δ μ (IsA ds μ1)) (q : k ds μ1) : AV X es δ μ k := h.mono fun _ _ ⟨a, b⟩ => by rw [a, b]; exact q
theorem EV.eq {d d' : D} (h : EV X e δ μ (Is d μ1)) (q : d = d') : EV X e δ μ (Is d' μ1) := by rw [← q]; exact h
theorem TV.eq {d d' : Bool} (h : TV X e δ μ (IsB d μ1)) (q : d = d') : TV X e δ μ (IsB d' μ1) := by rw [← q]; exact h
end

/-! ### a def's promise over data -/
abbrev PD := List D → Mem → (D → Mem → Prop) → Prop
def dsp (K : PySem.W.Frag) (P : PD) : Sp := fun vs H Q _ => ∃ ds μ k, Reps K μ H vs ds ∧ Sat K μ H ∧ P ds μ k ∧ VK K μ H k Q
section
variable {P : Program} {w : World} {K : PySem.W.Frag} {mg : Str → Option Value} {base : Heap}
theorem fn_dl {x qual : Str} {st : Stmt} {f : Addr} {fd : FuncData} {N ps : List Str} {j : Nat} {pd : PD} (F : FunD K x qual (defArgs st) (defBody st) (defScope st) [] [] f fd) (S : FnScope N ps (defScope st)) (len : ∀ ds μ k, pd ds μ k → ds.length = ps.length)
    (h : ∀ (cdv : Value) (A : Around) (outer : List Env) (s : Shared) (H : Hp) (E : XK), Room j (A.deeper (envOfC qual (defScope st) s.heap.objs.size f cdv)) → ∀ ds μ k, pd ds μ k →
      SV (cxOf CX0 P w K mg base N qual (defScope st) f cdv A outer s H E).nox (defBody st) (startD N ds) μ { nx := fun _ μ' => k .non μ', rt := k }) : FnOk P w K mg base CX0 (j + 1) f fd ps (dsp K pd) := by
  refine F.ok S (fun vs H Q E q => ?_) (fun cdv A outer s H vs Q E hr q => ?_)
  · obtain ⟨ds, μ, k, r, _, p, _⟩ := q
    rw [r.length]
    exact len ds μ k p
  · obtain ⟨ds, μ, k, r, sa, p, q⟩ := q
    obtain ⟨t, h1, h2⟩ := h cdv A outer s H E hr ds μ k p (start N vs) H { nx := fun _ H' => Q .non H', rt := Q } (SR.start r) sa
      ⟨fun σ' δ' μ' H' a b c _ => q _ _ μ' H' a b c .non, q, fun _ _ _ _ a => a.elim, fun _ _ _ _ a => a.elim⟩
    exact ⟨t, h1.nox, h2⟩
end
/-- a def that may be called by its name -/
structure Cal (P : Program) (w : World) (K : PySem.W.Frag) (mg : Str → Option Value) (base : Heap) (x : Str) (j : Nat) (pd : PD) : Prop where
  ex : ∃ (f : Addr) (fd : FuncData) (ps : List Str), mg x = some (.ref f) ∧ PySem.W.keepIn K (.ref f) = true ∧ Binds K fd ps [] ∧ FnOk P w K mg base CX0 j f fd ps (dsp K pd)
/-- a method -/
structure CalM (P : Program) (w : World) (K : PySem.W.Frag) (mg : Str → Option Value) (base : Heap) (C : Addr) (m : Str) (j : Nat) (pd : PD) : Prop where
  ex : ∃ (f : Addr) (fd : FuncData) (ps : List Str), Meth K C m f ∧ Binds K fd ps [] ∧ FnOk P w K mg base CX0 j f fd ps (dsp K pd)
end DL
set_option Elab.async false
set_option linter.all false
set_option maxRecDepth 100000
set_option maxHeartbeats 1000000
/-! Data layer, part 2: expressions. -/
namespace DL
open PySem PySem.Spec PyProof.Rows L2
abbrev St := L2.St

/-! ### pairs of mappings -/
section
variable {κ : Type} [DecidableEq κ]
def look (kvs : List (κ × D)) (k : κ) : Option D := (kvs.find? fun kv => decide (kv.1 = k)).map (·.2)
def putD (kvs : List (κ × D)) (k : κ) (v : D) : List (κ × D) :=
  if (kvs.any fun kv => decide (kv.1 = k)) = true then kvs.map (fun kv => if kv.1 = k then (kv.1, v) else kv) else kvs ++ [(k, v)]
def dropD (kvs : List (κ × D)) (k : κ) : List (κ × D) := kvs.filter fun kv => decide (kv.1 ≠ k)
variable {K : PySem.W.Frag} {μ : Mem} {H : Hp} {ws : List (κ × V)} {kvs : List (κ × D)}
theorem look_pos {p : κ × D} {r : List (κ × D)} {k : κ} (e : p.1 = k) : look (p :: r) k = some p.2 := by simp [look, List.find?_cons, e]
theorem look_neg {p : κ × D} {r : List (κ × D)} {k : κ} (e : ¬ p.1 = k) : look (p :: r) k = look r k := by simp [look, List.find?_cons, e]
theorem RKV.look_some : ∀ {ws : List (κ × V)} {kvs : List (κ × D)}, RKV K μ H ws kvs → ∀ {k : κ} {d : D}, look kvs k = some d → ∃ v, valV ws k = some v ∧ Rep K μ H v d
  | _, _, .nil, k, d, e => by cases e
  | _, _, .cons (a := p) (b := q) ⟨h1, h2⟩ t, k, d, e => by
    by_cases hk : q.1 = k
    · rw [look_pos hk] at e
      cases e
      exact ⟨p.2, valV_pos (h1.trans hk), h2⟩
    · rw [look_neg hk] at e
      obtain ⟨v, a, b⟩ := RKV.look_some t e
      exact ⟨v, by rw [valV_neg (fun z => hk (h1.symm.trans z))]; exact a, b⟩
theorem RKV.look_none : ∀ {ws : List (κ × V)} {kvs : List (κ × D)}, RKV K μ H ws kvs → ∀ {k : κ}, look kvs k = none → valV ws k = none
  | _, _, .nil, k, e => rfl
  | _, _, .cons (a := p) (b := q) ⟨h1, h2⟩ t, k, e => by
    by_cases hk : q.1 = k
    · rw [look_pos hk] at e
      cases e
    · rw [look_neg hk] at e
      rw [valV_neg (fun z => hk (h1.symm.trans z))]
      exact RKV.look_none t e
theorem RKV.any : ∀ {ws : List (κ × V)} {kvs : List (κ × D)}, RKV K μ H ws kvs → ∀ (k : κ), (ws.any fun kv => decide (kv.1 = k)) = kvs.any fun kv => decide (kv.1 = k)
  | _, _, .nil, k => rfl
  | _, _, .cons (a := p) (b := q) ⟨h1, h2⟩ t, k => by
    rw [List.any_cons, List.any_cons, RKV.any t k, h1]
theorem RKV.repl (h : RKV K μ H ws kvs) (k : κ) {v : V} {d : D} (r : Rep K μ H v d) : RKV K μ H (ws.map fun kv => if kv.1 = k then (kv.1, v) else kv) (kvs.map fun kv => if kv.1 = k then (kv.1, d) else kv) := by
  induction h with
  | nil => exact .nil
  | @cons p q l₁ l₂ hh t ih =>
    obtain ⟨h1, h2⟩ := hh
    rw [List.map_cons, List.map_cons]
    refine .cons ?_ ih
    by_cases hk : q.1 = k
    · rw [if_pos hk, if_pos (h1.trans hk)]
      exact ⟨h1, r⟩
    · rw [if_neg hk, if_neg (fun z => hk (h1.symm.trans z))]
      exact ⟨h1, h2⟩
theorem pair_app {α β : Type} {F : α → β → Prop} {l₁ m₁ : List α} {l₂ m₂ : List β} (h : Paired F l₁ l₂) (h2 : Paired F m₁ m₂) : Paired F (l₁ ++ m₁) (l₂ ++ m₂) := by
  induction h with
  | nil => exact h2
  | cons r t ih => exact .cons r ih
theorem RKV.put (h : RKV K μ H ws kvs) (k : κ) {v : V} {d : D} (r : Rep K μ H v d) : RKV K μ H (putK ws k v) (putD kvs k d) := by
  unfold putK putD
  rw [h.any k]
  split
  · exact h.repl k r
  · exact pair_app h (.cons ⟨rfl, r⟩ .nil)
theorem RKV.drop (h : RKV K μ H ws kvs) (k : κ) : RKV K μ H (dropK ws k) (dropD kvs k) := by
  unfold dropK dropD
  induction h with
  | nil => exact .nil
  | @cons p q l₁ l₂ hh t ih =>
    obtain ⟨h1, h2⟩ := hh
    by_cases hk : q.1 = k
    · rw [List.filter_cons_of_neg (by simp [h1, hk]), List.filter_cons_of_neg (by simp [hk])]
      exact ih
    · rw [List.filter_cons_of_pos (by simp [h1, hk]), List.filter_cons_of_pos (by simp [hk])]
      exact .cons ⟨h1, h2⟩ ih
theorem RKV.length (h : RKV K μ H ws kvs) : ws.length = kvs.length := Paired.length h
theorem RKV.keys (h : RKV K μ H ws kvs) : ws.map (·.1) = kvs.map (·.1) := by
  induction h with
  | nil => rfl
  | cons hh t ih => rw [List.map_cons, List.map_cons, ih, hh.1]
end
/-- an instance's fields, by name -/
def putFD (f : Str) (v : D) : List (Str × D) → List (Str × D)
  | [] => [(f, v)]
  | (g, u) :: r => if g = f then (g, v) :: r else (g, u) :: putFD f v r
/-- a key as data -/
def kD : Key → D
  | .inl i => .int i
  | .inr x => .str x
theorem rep_kD {K : PySem.W.Frag} {μ : Mem} {H : Hp} {v : V} : ∀ {k : Key}, Rep K μ H v (kD k) → v = kV k
  | .inl _, h => h.int_eq
  | .inr _, h => h.str_eq
theorem reps_kD {K : PySem.W.Frag} {μ : Mem} {H : Hp} : ∀ {vs : List V} {k : List Key}, Reps K μ H vs (k.map kD) → vs = k.map kV
  | _, [], .nil => rfl
  | _, x :: k, .cons h r => by
    rw [rep_kD h, reps_kD r]
    rfl

/-! ### names, constants -/
section
variable {X : Cx} {δ : DS} {μ : Mem} {k : D → Mem → Prop}
theorem ev_var (i : Nat) {x : Str} {pos : Pos} {d : D} (hd : δ[i]? = some (some d)) (hN : X.N[i]? = some x := by rfl) (hv : Vis X.env.scope x := by first | exact Or.inl rfl | exact Or.inr (Or.inl rfl) | exact Or.inr (Or.inr rfl))
    (h1 : (x == ("__debug__" : Str)) = false := by decide) (h2 : (x == ("__classdict__" : Str)) = false := by decide) : EV X (.Name x pos) δ μ (Is d μ) := fun σ H Q sr sa q => by
  obtain ⟨v, e, r⟩ := sr.at_ i d hd
  exact ⟨_, pe_var hN hv h1 h2, v, e, q v d μ H ⟨rfl, rfl⟩ Keep.refl sa r⟩
theorem ev_int {i : Int} {j pos} : EV X (.Constant (.int i) j pos) δ μ (Is (.int i) μ) := fun σ H Q sr sa q => ⟨_, pe_int, q _ _ μ H ⟨rfl, rfl⟩ Keep.refl sa (.int i)⟩
theorem ev_bl {b : Bool} {j pos} : EV X (.Constant (.bool b) j pos) δ μ (Is (.bl b) μ) := fun σ H Q sr sa q => ⟨_, pe_bl, q _ _ μ H ⟨rfl, rfl⟩ Keep.refl sa (.bl b)⟩
theorem ev_non {j pos} : EV X (.Constant .none j pos) δ μ (Is .non μ) := fun σ H Q sr sa q => ⟨_, pe_non, q _ _ μ H ⟨rfl, rfl⟩ Keep.refl sa .non⟩
theorem ev_str {x : Str} {j pos} : EV X (.Constant (.str x) j pos) δ μ (Is (.str x) μ) := fun σ H Q sr sa q => ⟨_, pe_str, q _ _ μ H ⟨rfl, rfl⟩ Keep.refl sa (.str x)⟩
theorem ev_globI {x : Str} {i : Int} {t : Tok} {pos : Pos} (hm : X.mg x = some (.int i t)) (hg : Gl X x := by rfl) (hd : (x == ("__debug__" : Str)) = false := by decide) : EV X (.Name x pos) δ μ (Is (.int i) μ) :=
  fun σ H Q sr sa q => ⟨_, pe_glob hg hm (v := .int i) ⟨t, rfl⟩ hd, q _ _ μ H ⟨rfl, rfl⟩ Keep.refl sa (.int i)⟩
/-- what was made and is no longer spoken of leaves the memory -/
theorem ev_drop {e : Expr} (h : EV X e δ μ fun d μ1 => ∃ μ2, Sub μ2 μ1 ∧ k d μ2) : EV X e δ μ k := fun σ H Q sr sa q => h σ H Q sr sa fun v d μ1 H1 ⟨μ2, s, hk⟩ kp sa1 r =>
  q v d μ2 H1 hk (kp.trans (Keep.sub s)) (sa1.sub s) (r.keep (Keep.sub s))
/-- a list of the memory stands still from now on -/
theorem ev_freeze {e : Expr} (h : EV X e δ μ fun d μ1 => ∃ p ds μ2, d = .ref p ∧ μ1 p = some (.lst ds) ∧ Sub μ2 μ1 ∧ μ2 p = none ∧ k (.lst ds) μ2) : EV X e δ μ k := fun σ H Q sr sa q =>
  h σ H Q sr sa fun v d μ1 H1 ⟨p, ds, μ2, e1, e2, s, e3, hk⟩ kp sa1 r => by
    subst e1
    obtain ⟨vs, h1, r1⟩ := sa1 p _ e2
    have hv := r.ref_eq
    subst hv
    exact q _ _ μ2 H1 hk (kp.trans (Keep.sub s)) (sa1.sub s) (.lst h1 e3 (r1.keep (Keep.sub s)))
end

/-! ### operators -/
section
variable (X : Cx)
def WO (f : Value → Value → Sem Value) : R2 := fun x y H Q => ∃ r, OpR X f r ∧ r x y H Q
def WU (f : Value → Sem Value) : V → Hp → L2.VK → Prop := fun x H Q => ∃ r, UnR X f r ∧ r x H Q
def WC (f : Value) : List V → Hp → L2.VK → Prop := fun xs H Q => ∃ r, CallR X f r ∧ r xs H Q
def WX : R2 := fun x y H Q => ∃ r, IxR X r ∧ r x y H Q
end
section
variable {X : Cx}
theorem op_wo (f : Value → Value → Sem Value) : OpR X f (WO X f) := fun pins s σ H x y v u Q I rx ry ⟨r, h, q⟩ => h pins s σ H x y v u Q I rx ry q
theorem un_wu (f : Value → Sem Value) : UnR X f (WU X f) := fun pins s σ H x v Q I rx ⟨r, h, q⟩ => h pins s σ H x v Q I rx q
theorem call_wc (f : Value) : CallR X f (WC X f) := fun pins s σ H xs us Q I r ⟨_, h, q⟩ => h pins s σ H xs us Q I r q
theorem ix_wx : IxR X (WX X) := fun a b pins s σ H x y v u Q I rx ry ⟨r, h, q⟩ => h a b pins s σ H x y v u Q I rx ry q
end
def isNon : D → Bool
  | .non => true
  | _ => false
/-- a two-place operation over data; a one-place one; a call -/
def RD (K : PySem.W.Frag) (r : R2) (x y : D) (μ : Mem) (k : D → Mem → Prop) : Prop := ∀ v u H Q, Rep K μ H v x → Rep K μ H u y → Sat K μ H → VK K μ H k Q → r v u H Q
def UD (K : PySem.W.Frag) (r : V → Hp → L2.VK → Prop) (x : D) (μ : Mem) (k : D → Mem → Prop) : Prop := ∀ v H Q, Rep K μ H v x → Sat K μ H → VK K μ H k Q → r v H Q
def CD (K : PySem.W.Frag) (r : List V → Hp → L2.VK → Prop) (ds : List D) (μ : Mem) (k : D → Mem → Prop) : Prop := ∀ vs H Q, Reps K μ H vs ds → Sat K μ H → VK K μ H k Q → r vs H Q
section
variable {X : Cx} {a b : Expr} {δ : DS} {μ μ1 μ2 : Mem} {k : D → Mem → Prop} {x y : D} {pos : Pos}
theorem ev_bin0 {op : Operator} (h : EV X a δ μ fun x μ1 => EV X b δ μ1 fun y μ2 => ∀ μ3, μ3 = μ2 → RD X.K (WO X (binaryOp op)) x y μ3 k) : EV X (.BinOp a op b pos) δ μ k := fun σ H Q sr sa q =>
  ⟨_, pe_op (op_wo _) (pe_we a) (pe_we b), h σ H _ sr sa fun v x μ1 H1 h1 kp1 sa1 r1 => h1 σ H1 _ (sr.keep kp1) sa1 fun u y μ2 H2 h2 kp2 sa2 r2 => h2 μ2 rfl v u H2 Q (r1.keep kp2) r2 sa2 (q.keep (kp1.trans kp2))⟩
theorem ev_bin {op : Operator} (ha : EV X a δ μ (Is x μ1)) (hb : EV X b δ μ1 (Is y μ2)) (h : RD X.K (WO X (binaryOp op)) x y μ2 k) : EV X (.BinOp a op b pos) δ μ k :=
  ev_bin0 (ha.is (hb.is fun μ3 e => by rw [e]; exact h))
theorem ev_un {op : UnaryOp} (ha : EV X a δ μ (Is x μ1)) (h : UD X.K (WU X (unaryOp op)) x μ1 k) : EV X (.UnaryOp op a pos) δ μ k := fun σ H Q sr sa q =>
  ⟨_, pe_un (un_wu _) (pe_we a), ha σ H _ sr sa fun v x' μ' H1 ⟨e1, e2⟩ kp1 sa1 r1 => by subst e1 e2; exact h v H1 Q r1 sa1 (q.keep kp1)⟩
theorem ev_cmp {op : CmpOp} (ha : EV X a δ μ (Is x μ1)) (hb : EV X b δ μ1 (Is y μ2)) (h : RD X.K (WO X (compareOp op)) x y μ2 k) (hm : behindInMarks op b = false := by first | exact nomark _ | rfl) : EV X (.Compare a [op] [b] pos) δ μ k := fun σ H Q sr sa q =>
  ⟨_, pe_cmpR (op_wo _) (pe_we a) (pe_we b) hm, ha σ H _ sr sa fun v x' μ' H1 ⟨e1, e2⟩ kp1 sa1 r1 => by
    subst e1 e2
    exact hb σ H1 _ (sr.keep kp1) sa1 fun u y' μ'' H2 ⟨e3, e4⟩ kp2 sa2 r2 => by
      subst e3 e4
      exact h v u H2 Q (r1.keep kp2) r2 sa2 (q.keep (kp1.trans kp2))⟩
theorem ev_ix (ha : EV X a δ μ (Is x μ1)) (hb : EV X b δ μ1 (Is y μ2)) (h : RD X.K (WX X) x y μ2 k) (hs : PlainIx b := by exact fun _ _ => rfl) : EV X (.Subscript a b pos) δ μ k := fun σ H Q sr sa q =>
  ⟨_, pe_ix ix_wx (pe_we a) (pe_we b) hs, ha σ H _ sr sa fun v x' μ' H1 ⟨e1, e2⟩ kp1 sa1 r1 => by
    subst e1 e2
    exact hb σ H1 _ (sr.keep kp1) sa1 fun u y' μ'' H2 ⟨e3, e4⟩ kp2 sa2 r2 => by
      subst e3 e4
      exact h v u H2 Q (r1.keep kp2) r2 sa2 (q.keep (kp1.trans kp2))⟩
/-- is None, is not None -/
theorem ev_isN (ha : EV X a δ μ (Is x μ1)) {j pos'} (h : k (.bl (isNon x)) μ1) : EV X (.Compare a [.Is] [.Constant .none j pos'] pos) δ μ k := fun σ H Q sr sa q =>
  ⟨_, pe_cmp (pc_isN (pe_we a)) rfl, ha σ H _ sr sa fun v x' μ' H1 ⟨e1, e2⟩ kp1 sa1 r1 => by
    subst e1 e2
    have e : decide (v = .non) = isNon x' := by cases r1 <;> rfl
    exact q _ _ _ H1 h kp1 sa1 (by rw [e]; exact .bl _)⟩
theorem ev_notN (ha : EV X a δ μ (Is x μ1)) {j pos'} (h : k (.bl (!isNon x)) μ1) : EV X (.Compare a [.IsNot] [.Constant .none j pos'] pos) δ μ k := fun σ H Q sr sa q =>
  ⟨_, pe_cmp (pc_notN (pe_we a)) rfl, ha σ H _ sr sa fun v x' μ' H1 ⟨e1, e2⟩ kp1 sa1 r1 => by
    subst e1 e2
    have e : (!decide (v = .non)) = !isNon x' := by cases r1 <;> rfl
    exact q _ _ _ H1 h kp1 sa1 (by rw [e]; exact .bl _)⟩
/-- a chain of two comparisons -/
theorem ev_chain {op op' : CmpOp} {c : Expr} {z : D} {μ3 : Mem} {b1 : Bool} (ha : EV X a δ μ (Is x μ1)) (hb : EV X b δ μ1 (Is y μ2)) (h : RD X.K (WO X (compareOp op)) x y μ2 (Is (.bl b1) μ2))
    (hn : b1 = false → k (.bl false) μ2) (hc : b1 = true → EV X c δ μ2 (Is z μ3)) (h2 : b1 = true → RD X.K (WO X (compareOp op')) y z μ3 k)
    (hm : lastMarks [op, op'] [b, c] = false := by with_unfolding_all rfl) : EV X (.Compare a [op, op'] [b, c] pos) δ μ k := fun σ H Q sr sa q => by
  refine ⟨_, pe_chain (op_wo _) (op_wo _) (pe_we a) (pe_we b) (pe_we c) (hm := hm), ?_⟩
  refine ha σ H _ sr sa fun v x' μ' H1 ⟨e1, e2⟩ kp1 sa1 r1 => ?_
  subst e1 e2
  refine hb σ H1 _ (sr.keep kp1) sa1 fun u y' μ'' H2 ⟨e3, e4⟩ kp2 sa2 r2 => ?_
  subst e3 e4
  refine h v u H2 _ (r1.keep kp2) r2 sa2 fun w d μ4 H3 ⟨e5, e6⟩ kp3 sa3 r3 => ?_
  subst e5 e6
  have e7 := r3.bl_eq
  subst e7
  refine ⟨b1, rfl, ?_⟩
  cases b1 with
  | false =>
    rw [if_neg Bool.false_ne_true]
    exact q _ _ _ H3 (hn rfl) ((kp1.trans kp2).trans kp3) sa3 (.bl _)
  | true =>
    rw [if_pos rfl]
    refine hc rfl σ H3 _ (sr.keep ((kp1.trans kp2).trans kp3)) sa3 fun w z' μ5 H4 ⟨e8, e9⟩ kp4 sa4 r4 => ?_
    subst e8 e9
    exact h2 rfl u w H4 Q ((r2.keep kp3).keep kp4) r4 sa4 (q.keep (((kp1.trans kp2).trans kp3).trans kp4))
end

/-! ### what operators give -/
section
variable {X : Cx} {K : PySem.W.Frag} {μ : Mem} {k : D → Mem → Prop} {i j : Int}
theorem rd_of {f : Value → Value → Sem Value} {r : R2} {x y : D} (ho : OpR X f r) (h : RD K r x y μ k) : RD K (WO X f) x y μ k := fun v u H Q a b c d => ⟨r, ho, h v u H Q a b c d⟩
theorem rd_I0 {g : Int → Int → V} {d : D} (hg : ∀ H, Rep K μ H (g i j) d) (h : k d μ) : RD K (rI0 g) (.int i) (.int j) μ k := fun v u H Q a b c q =>
  ⟨i, j, a.int_eq, b.int_eq, q _ _ μ H h Keep.refl c (hg H)⟩
theorem rd_I {C : Int → Int → Prop} {g : Int → Int → V} {d : D} (hc : C i j) (hg : ∀ H, Rep K μ H (g i j) d) (h : k d μ) : RD K (rI C g) (.int i) (.int j) μ k := fun v u H Q a b c q =>
  ⟨i, j, a.int_eq, b.int_eq, hc, q _ _ μ H h Keep.refl c (hg H)⟩
theorem rd_add (h : k (.int (i + j)) μ) : RD K (WO X (binaryOp .Add)) (.int i) (.int j) μ k := rd_of op_add (rd_I0 (fun _ => .int _) h)
theorem rd_sub (h : k (.int (i - j)) μ) : RD K (WO X (binaryOp .Sub)) (.int i) (.int j) μ k := rd_of op_sub (rd_I0 (fun _ => .int _) h)
theorem rd_mul (hc : CMul i j) (h : k (.int (i * j)) μ) : RD K (WO X (binaryOp .Mult)) (.int i) (.int j) μ k := rd_of op_mul (rd_I hc (fun _ => .int _) h)
theorem rd_div (hc : CDiv i j) (h : k (.int (i / j)) μ) : RD K (WO X (binaryOp .FloorDiv)) (.int i) (.int j) μ k := rd_of op_fdiv (rd_I hc (fun _ => .int _) h)
theorem rd_mod (hc : 0 < j) (h : k (.int (i % j)) μ) : RD K (WO X (binaryOp .Mod)) (.int i) (.int j) μ k := rd_of op_mod (rd_I hc (fun _ => .int _) h)
theorem rd_pow (hc : CPow i j) (h : k (.int (i ^ j.toNat)) μ) : RD K (WO X (binaryOp .Pow)) (.int i) (.int j) μ k := rd_of op_pow (rd_I hc (fun _ => .int _) h)
theorem rd_lt (h : k (.bl (decide (i < j))) μ) : RD K (WO X (compareOp .Lt)) (.int i) (.int j) μ k := rd_of op_lt (rd_I0 (fun _ => .bl _) h)
theorem rd_le (h : k (.bl (decide (i ≤ j))) μ) : RD K (WO X (compareOp .LtE)) (.int i) (.int j) μ k := rd_of op_le (rd_I0 (fun _ => .bl _) h)
theorem rd_gt (h : k (.bl (decide (j < i))) μ) : RD K (WO X (compareOp .Gt)) (.int i) (.int j) μ k := rd_of op_gt (rd_I0 (fun _ => .bl _) h)
theorem rd_ge (h : k (.bl (decide (j ≤ i))) μ) : RD K (WO X (compareOp .GtE)) (.int i) (.int j) μ k := rd_of op_ge (rd_I0 (fun _ => .bl _) h)
theorem rd_eq (h : k (.bl (decide (i = j))) μ) : RD K (WO X (compareOp .Eq)) (.int i) (.int j) μ k := rd_of op_eq fun v u H Q a b c q => by
  have e1 := a.int_eq
  have e2 := b.int_eq
  subst e1 e2
  refine ⟨rfl, q _ _ μ H h Keep.refl c ?_⟩
  have e : decide (V.int i = V.int j) = decide (i = j) := by simp
  rw [e]
  exact .bl _
theorem rd_ne (h : k (.bl (!decide (i = j))) μ) : RD K (WO X (compareOp .NotEq)) (.int i) (.int j) μ k := rd_of op_ne fun v u H Q a b c q => by
  have e1 := a.int_eq
  have e2 := b.int_eq
  subst e1 e2
  refine ⟨rfl, q _ _ μ H h Keep.refl c ?_⟩
  have e : decide (V.int i = V.int j) = decide (i = j) := by simp
  rw [e]
  exact .bl _
variable {s t : Str}
theorem rd_eqS (h : k (.bl (decide (s = t))) μ) : RD K (WO X (compareOp .Eq)) (.str s) (.str t) μ k := rd_of op_eq fun v u H Q a b c q => by
  have e1 := a.str_eq
  have e2 := b.str_eq
  subst e1 e2
  refine ⟨rfl, q _ _ μ H h Keep.refl c ?_⟩
  have e : decide (V.str s = V.str t) = decide (s = t) := by simp
  rw [e]
  exact .bl _
theorem rd_neS (h : k (.bl (!decide (s = t))) μ) : RD K (WO X (compareOp .NotEq)) (.str s) (.str t) μ k := rd_of op_ne fun v u H Q a b c q => by
  have e1 := a.str_eq
  have e2 := b.str_eq
  subst e1 e2
  refine ⟨rfl, q _ _ μ H h Keep.refl c ?_⟩
  have e : decide (V.str s = V.str t) = decide (s = t) := by simp
  rw [e]
  exact .bl _
theorem rd_addS (hz : s.length + t.length ≤ sizeLine) (h : k (.str (s ++ t)) μ) : RD K (WO X (binaryOp .Add)) (.str s) (.str t) μ k := rd_of op_add_str fun v u H Q a b c q =>
  ⟨s, t, a.str_eq, b.str_eq, hz, q _ _ μ H h Keep.refl c (.str _)⟩
theorem ud_neg (h : k (.int (-i)) μ) : UD K (WU X (unaryOp .USub)) (.int i) μ k := fun v H Q a c q => ⟨_, un_neg, i, a.int_eq, q _ _ μ H h Keep.refl c (.int _)⟩
/-! tuples, lists -/
variable {ds es : List D}
theorem rd_catT (hK : X.K = K) (hz : ds.length + es.length ≤ 100000) (h : k (.tup (ds ++ es)) μ) : RD K (WO X (binaryOp .Add)) (.tup ds) (.tup es) μ k := by
  subst hK
  refine rd_of op_catA fun v u H Q a b c q => ?_
  obtain ⟨p, vs, rfl, hp, mp, r⟩ := a.tup_at
  obtain ⟨p2, ws, rfl, hp2, mp2, r2⟩ := b.tup_at
  refine ⟨p, p2, vs, ws, rfl, rfl, SqT.of hp, SqT.of hp2, by rw [r.length, r2.length]; exact Nat.le_trans hz (by decide), fun e => ?_, fun _ e => ?_, fun _ _ p3 n3 => ?_⟩
  · subst e
    have e2 : ds = [] := List.eq_nil_of_length_eq_zero r.length.symm
    subst e2
    exact q _ _ μ H h Keep.refl c (.tup hp2 mp2 r2)
  · subst e
    have e2 : es = [] := List.eq_nil_of_length_eq_zero r2.length.symm
    subst e2
    rw [List.append_nil] at h
    exact q _ _ μ H h Keep.refl c (.tup hp mp r)
  · exact q _ _ μ _ h (Keep.new n3) (c.new n3) (.tup upd_same (c.fresh n3) ((r.append r2).keep (Keep.new n3)))
theorem atI_data {μ : Mem} {H : Hp} {vs : List V} (r : Reps K μ H vs ds) {d : D} (h : atI ds i = some d) : ∃ v, atI vs i = some v ∧ Rep K μ H v d := by
  unfold atI at h ⊢
  rw [r.length]
  cases e : ixN ds.length i with
  | none => rw [e] at h; cases h
  | some n =>
    rw [e] at h
    exact r.get h
theorem rd_ixT (hK : X.K = K) {d : D} (ha : atI ds i = some d) (h : k d μ) : RD K (WX X) (.tup ds) (.int i) μ k := by
  subst hK
  intro v u H Q a b c q
  obtain ⟨p, vs, rfl, hp, mp, r⟩ := a.tup_at
  obtain ⟨w, e1, e2⟩ := atI_data r ha
  exact ⟨_, ix_tup, p, vs, i, w, rfl, b.int_eq, SqT.of hp, e1, q _ _ μ H h Keep.refl c e2⟩
theorem rd_ixL (hK : X.K = K) {d : D} (ha : atI ds i = some d) (h : k d μ) : RD K (WX X) (.lst ds) (.int i) μ k := by
  subst hK
  intro v u H Q a b c q
  obtain ⟨p, vs, rfl, hp, mp, r⟩ := a.lst_at
  obtain ⟨w, e1, e2⟩ := atI_data r ha
  exact ⟨_, ix_list, p, vs, i, w, rfl, b.int_eq, SqL.of hp, e1, q _ _ μ H h Keep.refl c e2⟩
theorem rd_ixM (hK : X.K = K) {p : Addr} {d : D} (hp : μ p = some (.lst ds)) (ha : atI ds i = some d) (h : k d μ) : RD K (WX X) (.ref p) (.int i) μ k := by
  subst hK
  intro v u H Q a b c q
  obtain ⟨vs, h1, r⟩ := c p _ hp
  obtain ⟨w, e1, e2⟩ := atI_data r ha
  exact ⟨_, ix_list, p, vs, i, w, a.ref_eq, b.int_eq, SqL.of h1, e1, q _ _ μ H h Keep.refl c e2⟩
theorem rd_ixS {c : Nat} (hz : s.length ≤ sizeLine) (ha : atI s.cps.toList i = some c) (h : k (.str ⟨#[c]⟩) μ) : RD K (WX X) (.str s) (.int i) μ k := fun v u H Q a b sa q =>
  ⟨_, ix_str, s, i, c, a.str_eq, b.int_eq, hz, ha, q _ _ μ H h Keep.refl sa (.str _)⟩
/-- xs + ys of lists, each of the memory or standing still; the new one -/
def LD (μ : Mem) (x : D) (ds : List D) : Prop := x = .lst ds ∨ ∃ p, x = .ref p ∧ μ p = some (.lst ds)
theorem LD.at_ {H : Hp} {v : V} {x : D} (h : LD μ x ds) (sa : Sat K μ H) (r : Rep K μ H v x) : ∃ p vs, v = .ref p ∧ H p = some (.lst vs) ∧ Reps K μ H vs ds := by
  rcases h with rfl | ⟨p, rfl, hp⟩
  · obtain ⟨p, vs, rfl, h, m, r⟩ := r.lst_at
    exact ⟨p, vs, rfl, h, r⟩
  · obtain ⟨vs, h1, r1⟩ := sa p _ hp
    exact ⟨p, vs, r.ref_eq, h1, r1⟩
/-- what becomes of a new list: it stands still, or it is an object of the memory -/
def NewL (μ : Mem) (ds : List D) (k : D → Mem → Prop) : Prop := k (.lst ds) μ ∨ ∀ p, μ p = none → k (.ref p) (μ.put p (.lst ds))
theorem NewL.go {H : Hp} {Q : L2.VK} {vs : List V} (h : NewL μ ds k) (sa : Sat K μ H) (q : VK K μ H k Q) (r : Reps K μ H vs ds) {p : Addr} (n : H p = none) : Q (.ref p) (upd H p (.lst vs)) := by
  rcases h with h | h
  · exact q _ _ μ _ h (Keep.new n) (sa.new n) (.lst upd_same (sa.fresh n) (r.keep (Keep.new n)))
  · exact q _ _ _ _ (h p (sa.fresh n)) (Keep.newM n) (sa.newM n ⟨vs, upd_same, r.keep (Keep.newM n)⟩) (.ref p)
theorem rd_cat {x y : D} (hx : LD μ x ds) (hy : LD μ y es) (hz : ds.length + es.length ≤ 100000) (h : NewL μ (ds ++ es) k) : RD K (WO X (binaryOp .Add)) x y μ k := rd_of op_cat fun v u H Q a b c q => by
  obtain ⟨p, vs, rfl, hp, r⟩ := hx.at_ c a
  obtain ⟨p2, ws, rfl, hp2, r2⟩ := hy.at_ c b
  exact ⟨p, p2, vs, ws, rfl, rfl, hp, hp2, by rw [r.length, r2.length]; exact Nat.le_trans hz (by decide), fun p3 n3 => h.go c q (r.append r2) n3⟩
theorem rd_rep {x : D} (hx : LD μ x ds) (h1 : 0 ≤ i) (h2 : i ≤ 1000) (hz : ds.length ≤ 100) (h : NewL μ (List.replicate i.toNat ds).flatten k) : RD K (WO X (binaryOp .Mult)) x (.int i) μ k := rd_of op_rep fun v u H Q a b c q => by
  obtain ⟨p, vs, rfl, hp, r⟩ := hx.at_ c a
  refine ⟨p, i, vs, rfl, b.int_eq, hp, by omega, by omega, ?_, fun p3 n3 => h.go c q (r.rep _) n3⟩
  rw [r.length]
  exact Nat.le_trans (Nat.mul_le_mul hz (show i.toNat ≤ 1000 by omega)) (by decide)
end
end DL
set_option Elab.async false
set_option linter.all false
set_option maxRecDepth 100000
set_option maxHeartbeats 1000000
/-! Data layer, part 3: arguments, displays, calls, fields, slices, loops, comprehensions. -/
namespace DL
open PySem PySem.Spec PyProof.Rows L2

/-! ### arguments, displays -/
section
variable {X : Cx} {δ : DS} {μ μ1 μ2 : Mem} {k : D → Mem → Prop} {e : Expr} {es : List Expr} {pos : Pos}
theorem av_nil0 {ka : List D → Mem → Prop} (h : ka [] μ) : AV X [] δ μ ka := fun σ H Q sr sa q => ⟨_, pa_nil, q [] [] μ H h Keep.refl sa .nil⟩
theorem av_cons0 {ka : List D → Mem → Prop} (h : EV X e δ μ fun d μ1 => AV X es δ μ1 fun ds μ2 => ka (d :: ds) μ2) (hs : starEach (e :: es) X.env = (false, eval e X.env) :: starEach es X.env := by rfl) : AV X (e :: es) δ μ ka := fun σ H Q sr sa q =>
  ⟨_, pa_cons (pe_we e) (pa_wa es) hs, h σ H _ sr sa fun v d μ1 H1 h1 kp1 sa1 r1 => h1 σ H1 _ (sr.keep kp1) sa1 fun vs ds μ2 H2 h2 kp2 sa2 r2 => q _ _ μ2 H2 h2 (kp1.trans kp2) sa2 (.cons (r1.keep kp2) r2)⟩
theorem av_nil : AV X [] δ μ (IsA [] μ) := av_nil0 ⟨rfl, rfl⟩
theorem av_cons {d : D} {ds : List D} (h : EV X e δ μ (Is d μ1)) (h2 : AV X es δ μ1 (IsA ds μ2)) (hs : starEach (e :: es) X.env = (false, eval e X.env) :: starEach es X.env := by rfl) : AV X (e :: es) δ μ (IsA (d :: ds) μ2) :=
  av_cons0 (h.is (h2.mono fun _ _ ⟨a, b⟩ => ⟨by rw [a], b⟩)) hs
theorem ev_tup0 {x1} (h : AV X es δ μ fun ds μ1 => ds.length ≤ 1000 ∧ k (.tup ds) μ1) : EV X (.Tuple es x1 pos) δ μ k := fun σ H Q sr sa q =>
  ⟨_, pe_tup (pa_wa es), h σ H _ sr sa fun vs ds μ1 H1 ⟨hz, hk⟩ kp1 sa1 r1 => ⟨by rw [r1.length]; exact Nat.le_trans hz (by decide), fun p n => q _ _ μ1 _ hk (kp1.trans (Keep.new n)) (sa1.new n) (.tup upd_same (sa1.fresh n) (r1.keep (Keep.new n)))⟩⟩
theorem ev_tup {x1} {ds : List D} (h : AV X es δ μ (IsA ds μ1)) (hz : ds.length ≤ 1000) (hk : k (.tup ds) μ1) : EV X (.Tuple es x1 pos) δ μ k := ev_tup0 (h.is ⟨hz, hk⟩)
theorem ev_lst0 (h : AV X es δ μ fun ds μ1 => ds.length ≤ 1000 ∧ NewL μ1 ds k) : EV X (.List es pos) δ μ k := fun σ H Q sr sa q =>
  ⟨_, pe_lst (pa_wa es), h σ H _ sr sa fun vs ds μ1 H1 ⟨hz, hk⟩ kp1 sa1 r1 => ⟨by rw [r1.length]; exact Nat.le_trans hz (by decide), fun p n => hk.go sa1 (q.keep kp1) r1 n⟩⟩
theorem ev_lst {ds : List D} (h : AV X es δ μ (IsA ds μ1)) (hz : ds.length ≤ 1000) (hk : NewL μ1 ds k) : EV X (.List es pos) δ μ k := ev_lst0 (h.is ⟨hz, hk⟩)
theorem ev_dnewK (h : ∀ p, μ p = none → k (.ref p) (μ.put p (.dK []))) : EV X (.Dict [] [] pos) δ μ k := fun σ H Q sr sa q =>
  ⟨_, pe_dnewK, fun p n => q _ _ _ _ (h p (sa.fresh n)) (Keep.newM n) (sa.newM n ⟨[], upd_same, .nil⟩) (.ref p)⟩
theorem ev_dnewT (h : ∀ p, μ p = none → k (.ref p) (μ.put p (.dT []))) : EV X (.Dict [] [] pos) δ μ k := fun σ H Q sr sa q =>
  ⟨_, pe_dnewT, fun p n => q _ _ _ _ (h p (sa.fresh n)) (Keep.newM n) (sa.newM n ⟨[], upd_same, .nil⟩) (.ref p)⟩

/-! ### calls -/
theorem ev_callB0 {x : Str} {id : String} {p : Pos} (h : AV X (e :: es) δ μ fun ds μ1 => CD X.K (WC X (.builtin id)) ds μ1 k) (hm : X.mg x = none) (hv : bootBuiltins x = some (.builtin id)) (hg : Gl X x := by rfl) (hn : x ≠ "__name__" := by decide) (hdb : (x == ("__debug__" : Str)) = false := by decide)
    (he : starEach (e :: es) X.env = (false, eval e X.env) :: starEach es X.env := by rfl) (hpl : (backTo pos (starEach es X.env)).any (·.1) = false := by rfl) : EV X (.Call (.Name x p) (e :: es) [] pos) δ μ k := fun σ H Q sr sa q =>
  ⟨_, pe_callB (call_wc _) hg hm hv (pa_wa _) hn hdb he hpl, h σ H _ sr sa fun vs ds μ1 H1 hk kp1 sa1 r1 => hk vs H1 Q r1 sa1 (q.keep kp1)⟩
theorem ev_callB {x : Str} {id : String} {p : Pos} {ds : List D} (ha : AV X (e :: es) δ μ (IsA ds μ1)) (h : CD X.K (WC X (.builtin id)) ds μ1 k) (hm : X.mg x = none) (hv : bootBuiltins x = some (.builtin id)) (hg : Gl X x := by rfl) (hn : x ≠ "__name__" := by decide) (hdb : (x == ("__debug__" : Str)) = false := by decide)
    (he : starEach (e :: es) X.env = (false, eval e X.env) :: starEach es X.env := by rfl) (hpl : (backTo pos (starEach es X.env)).any (·.1) = false := by rfl) : EV X (.Call (.Name x p) (e :: es) [] pos) δ μ k :=
  ev_callB0 (ha.is h) hm hv hg hn hdb he hpl
theorem ev_callT0 {x : Str} {T : String} {p : Pos} (h : AV X (e :: es) δ μ fun ds μ1 => CD X.K (WC X (.type T)) ds μ1 k) (hm : X.mg x = none) (hv : bootBuiltins x = some (.type T)) (hg : Gl X x := by rfl) (hn : x ≠ "__name__" := by decide) (hdb : (x == ("__debug__" : Str)) = false := by decide)
    (he : starEach (e :: es) X.env = (false, eval e X.env) :: starEach es X.env := by rfl) (hpl : (backTo pos (starEach es X.env)).any (·.1) = false := by rfl) : EV X (.Call (.Name x p) (e :: es) [] pos) δ μ k := fun σ H Q sr sa q =>
  ⟨_, pe_callTy (call_wc _) hg hm hv (pa_wa _) hn hdb he hpl, h σ H _ sr sa fun vs ds μ1 H1 hk kp1 sa1 r1 => hk vs H1 Q r1 sa1 (q.keep kp1)⟩
theorem ev_callT {x : Str} {T : String} {p : Pos} {ds : List D} (ha : AV X (e :: es) δ μ (IsA ds μ1)) (h : CD X.K (WC X (.type T)) ds μ1 k) (hm : X.mg x = none) (hv : bootBuiltins x = some (.type T)) (hg : Gl X x := by rfl) (hn : x ≠ "__name__" := by decide) (hdb : (x == ("__debug__" : Str)) = false := by decide)
    (he : starEach (e :: es) X.env = (false, eval e X.env) :: starEach es X.env := by rfl) (hpl : (backTo pos (starEach es X.env)).any (·.1) = false := by rfl) : EV X (.Call (.Name x p) (e :: es) [] pos) δ μ k :=
  ev_callT0 (ha.is h) hm hv hg hn hdb he hpl
/-- a builtin type's name as a value -/
theorem ev_ty {x : Str} {T : String} (hm : X.mg x = none) (hv : bootBuiltins x = some (.type T)) (hg : Gl X x := by rfl) (hn : x ≠ "__name__" := by decide) (hdb : (x == ("__debug__" : Str)) = false := by decide) : EV X (.Name x pos) δ μ (Is (.ty T) μ) :=
  fun σ H Q sr sa q => ⟨_, pe_bltn (v := .ty T) hg hm hv rfl hn hdb, q _ _ μ H ⟨rfl, rfl⟩ Keep.refl sa (.ty T)⟩
/-- f(e, ..), f a def -/
theorem ev_call {CX : CXT} {j : Nat} {f : Addr} {fd : FuncData} {ps : List Str} {P : PD} {x : Str} {p : Pos} {E : XK} (F : FnOk X.prog X.w X.K X.mg X.base CX j f fd ps (dsp X.K P)) (hr : Room j X.A) (hm : X.mg x = some (.ref f)) (hk : PySem.W.keepIn X.K (.ref f) = true) (hb : Binds X.K fd ps [])
    (hx : Passes CX X E) (h : AV X (e :: es) δ μ fun ds μ1 => P ds μ1 k) (hg : Gl X x := by rfl) (hdb : (x == ("__debug__" : Str)) = false := by decide)
    (he : starEach (e :: es) X.env = (false, eval e X.env) :: starEach es X.env := by rfl) (hpl : (backTo pos (starEach es X.env)).any (·.1) = false := by rfl) : EV X (.Call (.Name x p) (e :: es) [] pos) δ μ k := fun σ H Q sr sa q =>
  ⟨_, pe_call (E := E) F hr hg hm hk hb .nil hx (pa_wa _) hdb he hpl, h σ H _ sr sa fun vs ds μ1 H1 hp kp1 sa1 r1 => ⟨ds, μ1, k, by rw [List.append_nil]; exact r1, sa1, hp, q.keep kp1⟩⟩
theorem Rlook {K : PySem.W.Frag} {H : Hp} : ∀ {ws : List (Str × V)} {fs : List (Str × D)}, RKV K μ H ws fs → ∀ (f : Str), (fs.lookup f = none → ws.lookup f = none) ∧ ∀ d, fs.lookup f = some d → ∃ v, ws.lookup f = some v ∧ Rep K μ H v d
  | _, _, .nil, f => ⟨fun _ => rfl, fun _ h => by cases h⟩
  | _, _, .cons (a := p) (b := q) ⟨h1, h2⟩ t, f => by
    obtain ⟨g, v⟩ := p
    obtain ⟨g', d'⟩ := q
    have e : g = g' := h1
    subst e
    obtain ⟨ih1, ih2⟩ := Rlook t f
    rw [List.lookup_cons, List.lookup_cons]
    cases f == g with
    | true => exact ⟨fun h => (by cases h), fun d h => (by cases h; exact ⟨v, rfl, h2⟩)⟩
    | false => exact ⟨ih1, ih2⟩
/-- o.m(e, ..) -/
theorem ev_meth {CX : CXT} {j : Nat} {C f : Addr} {m : Str} {fd : FuncData} {ps : List Str} {P : PD} {o : Expr} {a : Addr} {fs : List (Str × D)} {apos : Pos} {E : XK} {pl : Sem Bool} (F : FnOk X.prog X.w X.K X.mg X.base CX j f fd ps (dsp X.K P)) (hr : Room j X.A) (c : Cls X.K C) (hm : Meth X.K C m f) (hb : Binds X.K fd ps [])
    (hx : Passes CX X E) (ho : EV X o δ μ (Is (.ref a) μ1)) (ha : μ1 a = some (.ins C fs)) (hl : fs.lookup m = none) (h : AV X (e :: es) δ μ1 fun ds μ2 => P (.ref a :: ds) μ2 k)
    (hst : starEach (e :: es) X.env = (false, eval e X.env) :: starEach es X.env := by rfl) (hpl : (backTo pos (starEach es X.env)).any (·.1) = false := by rfl)
    (ht : eval (.Call (.Attribute o m apos) (e :: es) [] pos) X.env = (do
      let ov ← eval o X.env
      standAt apos.atName
      let (f, first) ← holding [ov] (getMethod ov m pl)
      callWith pos f first (backTo pos (starEach (e :: es) X.env)) (backToKw pos (keywordEach [] X.env))) := by rfl) : EV X (.Call (.Attribute o m apos) (e :: es) [] pos) δ μ k := fun σ H Q sr sa q => by
  refine ⟨_, pe_meth (E := E) (pe_we o) c hm F hr hb .nil hx (pa_wa _) hst hpl ht, ho σ H _ sr sa fun v d μ' H1 ⟨e1, e2⟩ kp1 sa1 r1 => ?_⟩
  subst e1 e2
  obtain ⟨dx, ws, h1, h2⟩ := sa1 a _ ha
  refine ⟨a, dx, ws, r1.ref_eq, h1, (Rlook h2 m).1 hl, h σ H1 _ (sr.keep kp1) sa1 fun vs ds μ2 H2 hp kp2 sa2 r2 => ⟨_, μ2, k, .cons (r1.keep kp2) (by rw [List.append_nil]; exact r2), sa2, hp, q.keep (kp1.trans kp2)⟩⟩
theorem ev_meth0 {CX : CXT} {j : Nat} {C f : Addr} {m : Str} {fd : FuncData} {ps : List Str} {P : PD} {o : Expr} {a : Addr} {fs : List (Str × D)} {apos : Pos} {E : XK} {pl : Sem Bool} (F : FnOk X.prog X.w X.K X.mg X.base CX j f fd ps (dsp X.K P)) (hr : Room j X.A) (c : Cls X.K C) (hm : Meth X.K C m f) (hb : Binds X.K fd ps [])
    (hx : Passes CX X E) (ho : EV X o δ μ (Is (.ref a) μ1)) (ha : μ1 a = some (.ins C fs)) (hl : fs.lookup m = none) (h : P [.ref a] μ1 k)
    (ht : eval (.Call (.Attribute o m apos) [] [] pos) X.env = (do
      let ov ← eval o X.env
      standAt apos.atName
      let (f, first) ← holding [ov] (getMethod ov m pl)
      callWith pos f first (backTo pos (starEach [] X.env)) (backToKw pos (keywordEach [] X.env))) := by rfl) : EV X (.Call (.Attribute o m apos) [] [] pos) δ μ k := fun σ H Q sr sa q => by
  refine ⟨_, pe_meth0 (E := E) (pe_we o) c hm F hr hb .nil hx ht, ho σ H _ sr sa fun v d μ' H1 ⟨e1, e2⟩ kp1 sa1 r1 => ?_⟩
  subst e1 e2
  obtain ⟨dx, ws, h1, h2⟩ := sa1 a _ ha
  exact ⟨a, dx, ws, r1.ref_eq, h1, (Rlook h2 m).1 hl, ⟨_, μ', k, .cons r1 .nil, sa1, h, q.keep kp1⟩⟩
/-- C(e, ..) -/
theorem ev_make {CX : CXT} {j : Nat} {C f : Addr} {fd : FuncData} {ps : List Str} {P : PD} {x : Str} {p : Pos} {E : XK} (M : Mk X.K C f) (F : FnOk X.prog X.w X.K X.mg X.base CX j f fd ps (dsp X.K P)) (hr : Room (j + 1) X.A) (hm : X.mg x = some (.ref C)) (hb : Binds X.K fd ps [])
    (hx : Passes CX X E) (h : AV X (e :: es) δ μ fun ds μ1 => ∀ a, μ1 a = none → P (.ref a :: ds) (μ1.put a (.ins C [])) fun d μ2 => d = .non ∧ k (.ref a) μ2) (hg : Gl X x := by rfl) (hdb : (x == ("__debug__" : Str)) = false := by decide)
    (he : starEach (e :: es) X.env = (false, eval e X.env) :: starEach es X.env := by rfl) (hpl : (backTo pos (starEach es X.env)).any (·.1) = false := by rfl) : EV X (.Call (.Name x p) (e :: es) [] pos) δ μ k := fun σ H Q sr sa q => by
  refine ⟨_, pe_make (E := E) M F hr hg hm hb .nil hx (pa_wa _) hdb he hpl, h σ H _ sr sa fun vs ds μ1 H1 hp kp1 sa1 r1 => fun a dx na ndx hne => ?_⟩
  have k2 : Keep μ1 H1 μ1 (upd H1 dx (.own a)) := Keep.new ndx
  have s2 := sa1.new (o := .own a) ndx
  have na2 : upd H1 dx (.own a) a = none := by rw [upd_ne hne.symm]; exact na
  have k3 : Keep μ1 (upd H1 dx (.own a)) (μ1.put a (.ins C [])) (upd (upd H1 dx (.own a)) a (.ins C dx [])) := Keep.newM na2
  have s3 := s2.newM (m := .ins C []) (o := .ins C dx []) na2 ⟨dx, [], upd_same, .nil⟩
  refine ⟨_, _, _, .cons (.ref a) (by rw [List.append_nil]; exact (r1.keep k2).keep k3), s3, hp a (sa1.fresh na), fun v d μ2 H2 ⟨e1, hk⟩ kp2 sa2 r2 => ?_⟩
  subst e1
  exact ⟨r2.non_eq, q _ _ μ2 H2 hk (((kp1.trans k2).trans k3).trans kp2) sa2 (.ref a)⟩
/-- .. by the def's name -/
theorem ev_callC {j : Nat} {P : PD} {x : Str} {p : Pos} (c : Cal X.prog X.w X.K X.mg X.base x j P) (hr : Room j X.A) (h : AV X (e :: es) δ μ fun ds μ1 => P ds μ1 k) (hg : Gl X x := by rfl) (hdb : (x == ("__debug__" : Str)) = false := by decide)
    (he : starEach (e :: es) X.env = (false, eval e X.env) :: starEach es X.env := by rfl) (hpl : (backTo pos (starEach es X.env)).any (·.1) = false := by rfl) : EV X (.Call (.Name x p) (e :: es) [] pos) δ μ k := by
  obtain ⟨f, fd, ps, hm, hk, hb, F⟩ := c.ex
  exact ev_call F hr hm hk hb pass0 h hg hdb he hpl
theorem ev_methC {j : Nat} {P : PD} {C : Addr} {m : Str} {o : Expr} {a : Addr} {fs : List (Str × D)} {apos : Pos} {pl : Sem Bool} (c : CalM X.prog X.w X.K X.mg X.base C m j P) (cl : Cls X.K C) (hr : Room j X.A) (ho : EV X o δ μ (Is (.ref a) μ1)) (ha : μ1 a = some (.ins C fs)) (hl : fs.lookup m = none) (h : AV X (e :: es) δ μ1 fun ds μ2 => P (.ref a :: ds) μ2 k)
    (hst : starEach (e :: es) X.env = (false, eval e X.env) :: starEach es X.env := by rfl) (hpl : (backTo pos (starEach es X.env)).any (·.1) = false := by rfl)
    (ht : eval (.Call (.Attribute o m apos) (e :: es) [] pos) X.env = (do
      let ov ← eval o X.env
      standAt apos.atName
      let (f, first) ← holding [ov] (getMethod ov m pl)
      callWith pos f first (backTo pos (starEach (e :: es) X.env)) (backToKw pos (keywordEach [] X.env))) := by rfl) : EV X (.Call (.Attribute o m apos) (e :: es) [] pos) δ μ k := by
  obtain ⟨f, fd, ps, hm, hb, F⟩ := c.ex
  exact ev_meth F hr cl hm hb pass0 ho ha hl h hst hpl ht
theorem ev_methC0 {j : Nat} {P : PD} {C : Addr} {m : Str} {o : Expr} {a : Addr} {fs : List (Str × D)} {apos : Pos} {pl : Sem Bool} (c : CalM X.prog X.w X.K X.mg X.base C m j P) (cl : Cls X.K C) (hr : Room j X.A) (ho : EV X o δ μ (Is (.ref a) μ1)) (ha : μ1 a = some (.ins C fs)) (hl : fs.lookup m = none) (h : P [.ref a] μ1 k)
    (ht : eval (.Call (.Attribute o m apos) [] [] pos) X.env = (do
      let ov ← eval o X.env
      standAt apos.atName
      let (f, first) ← holding [ov] (getMethod ov m pl)
      callWith pos f first (backTo pos (starEach [] X.env)) (backToKw pos (keywordEach [] X.env))) := by rfl) : EV X (.Call (.Attribute o m apos) [] [] pos) δ μ k := by
  obtain ⟨f, fd, ps, hm, hb, F⟩ := c.ex
  exact ev_meth0 F hr cl hm hb pass0 ho ha hl h ht
/-! ### fields -/
theorem ev_fld {C a : Addr} {fs : List (Str × D)} {f : Str} {d : D} (c : Cls X.K C) (n : NoAttr X.K C f) (ho : EV X e δ μ (Is (.ref a) μ1)) (ha : μ1 a = some (.ins C fs)) (hl : fs.lookup f = some d) (h : k d μ1)
    (hb : attributeBase e f X.env (eval e X.env) = eval e X.env := by rfl) : EV X (.Attribute e f pos) δ μ k := fun σ H Q sr sa q => by
  refine ⟨_, pe_fld (pe_we e) hb, ho σ H _ sr sa fun v d' μ' H1 ⟨e1, e2⟩ kp1 sa1 r1 => ?_⟩
  subst e1 e2
  obtain ⟨dx, ws, h1, h2⟩ := sa1 a _ ha
  obtain ⟨w, h3, h4⟩ := (Rlook h2 f).2 d hl
  exact ⟨a, C, dx, ws, w, r1.ref_eq, h1, c, n, h3, q _ _ μ' H1 h kp1 sa1 h4⟩
theorem Rput {K : PySem.W.Frag} {H : Hp} {v : V} {d : D} (r : Rep K μ H v d) (f : Str) : ∀ {ws : List (Str × V)} {fs : List (Str × D)}, RKV K μ H ws fs → RKV K μ H (putF f v ws) (putFD f d fs)
  | _, _, .nil => .cons ⟨rfl, r⟩ .nil
  | _, _, .cons (a := p) (b := q) ⟨h1, h2⟩ t => by
    obtain ⟨g, u⟩ := p
    obtain ⟨g', d'⟩ := q
    have e : g = g' := h1
    subst e
    by_cases hg : g = f
    · unfold putF putFD
      rw [if_pos hg, if_pos hg]
      exact .cons ⟨rfl, r⟩ t
    · unfold putF putFD
      rw [if_neg hg, if_neg hg]
      exact .cons ⟨rfl, h2⟩ (Rput r f t)
/-! ### dicts -/
theorem ev_dget {o i : Expr} {p : Addr} {kvs : List (Key × D)} {y : Key} {d : D} (hu : X.A.units + 1 < cLine) (ho : EV X o δ μ (Is (.ref p) μ1)) (hi : EV X i δ μ1 (Is (kD y) μ2)) (hp : μ2 p = some (.dK kvs)) (hl : look kvs y = some d) (h : k d μ2) (hs : NoSl i := by exact fun _ _ => rfl) :
    EV X (.Subscript o i pos) δ μ k := fun σ H Q sr sa q => by
  refine ⟨_, pe_dget hu (pe_we o) (pe_we i) hs, ho σ H _ sr sa fun v d' μ' H1 ⟨e1, e2⟩ kp1 sa1 r1 => ?_⟩
  subst e1 e2
  refine hi σ H1 _ (sr.keep kp1) sa1 fun u d2 μ'' H2 ⟨e3, e4⟩ kp2 sa2 r2 => ?_
  subst e3 e4
  obtain ⟨ws, h1, h2⟩ := sa2 p _ hp
  obtain ⟨w, h3, h4⟩ := h2.look_some hl
  refine ⟨p, w, r1.ref_eq, ?_, q _ _ _ H2 h (kp1.trans kp2) sa2 h4⟩
  rw [rep_kD r2, ← h3]
  exact DGet.k h1
theorem ev_dgetT {o i : Expr} {p : Addr} {kvs : List (List Key × D)} {y : List Key} {d : D} (hu : X.A.units + 1 < cLine) (ho : EV X o δ μ (Is (.ref p) μ1)) (hi : EV X i δ μ1 (Is (.tup (y.map kD)) μ2)) (hp : μ2 p = some (.dT kvs)) (hl : look kvs y = some d) (h : k d μ2) (hs : NoSl i := by exact fun _ _ => rfl) :
    EV X (.Subscript o i pos) δ μ k := fun σ H Q sr sa q => by
  refine ⟨_, pe_dget hu (pe_we o) (pe_we i) hs, ho σ H _ sr sa fun v d' μ' H1 ⟨e1, e2⟩ kp1 sa1 r1 => ?_⟩
  subst e1 e2
  refine hi σ H1 _ (sr.keep kp1) sa1 fun u d2 μ'' H2 ⟨e3, e4⟩ kp2 sa2 r2 => ?_
  subst e3 e4
  obtain ⟨ws, h1, h2⟩ := sa2 p _ hp
  obtain ⟨w, h3, h4⟩ := h2.look_some hl
  obtain ⟨b, vs, rfl, hb, _, rb⟩ := r2.tup_at
  refine ⟨p, w, r1.ref_eq, ?_, q _ _ _ H2 h (kp1.trans kp2) sa2 h4⟩
  rw [reps_kD rb] at hb
  rw [← h3]
  exact DGet.t h1 hb
/-- d.get(t, x), t a tuple of keys -/
theorem ev_getT {o i x : Expr} {p : Addr} {kvs : List (List Key × D)} {y : List Key} {dx : D} {μ3 : Mem} {apos : Pos} (hu : X.A.units + 1 < cLine) (ho : EV X o δ μ (Is (.ref p) μ1)) (hi : EV X i δ μ1 (Is (.tup (y.map kD)) μ2)) (hx : EV X x δ μ2 (Is dx μ3)) (hp1 : μ1 p = some (.dT kvs)) (hp : μ3 p = some (.dT kvs))
    (h : k ((look kvs y).getD dx) μ3) (m : M2 X o "get" apos i x pos) : EV X (.Call (.Attribute o "get" apos) [i, x] [] pos) δ μ k := fun σ H Q sr sa q => by
  refine ⟨_, pe_dget2 hu (pe_we o) (pe_we i) (pe_we x) m, ho σ H _ sr sa fun v d' μ' H1 ⟨e1, e2⟩ kp1 sa1 r1 => ?_⟩
  subst e1 e2
  obtain ⟨ws0, h0, _⟩ := sa1 p _ hp1
  refine ⟨p, r1.ref_eq, .inr ⟨ws0, .inl h0⟩, hi σ H1 _ (sr.keep kp1) sa1 fun u d2 μ'' H2 ⟨e3, e4⟩ kp2 sa2 r2 => ?_⟩
  subst e3 e4
  refine hx σ H2 _ (sr.keep (kp1.trans kp2)) sa2 fun z d3 μ''' H3 ⟨e5, e6⟩ kp3 sa3 r3 => ?_
  subst e5 e6
  obtain ⟨ws, h1, h2⟩ := sa3 p _ hp
  obtain ⟨b, vs, rfl, hb, _, rb⟩ := (r2.keep kp3).tup_at
  rw [reps_kD rb] at hb
  refine ⟨valV ws y, DGet.t h1 hb, ?_⟩
  cases hl : look kvs y with
  | none =>
    rw [h2.look_none hl]
    rw [hl] at h
    exact q _ _ _ H3 h ((kp1.trans kp2).trans kp3) sa3 r3
  | some d =>
    obtain ⟨w, h3, h4⟩ := h2.look_some hl
    rw [h3]
    rw [hl] at h
    exact q _ _ _ H3 h ((kp1.trans kp2).trans kp3) sa3 h4
/-- d.pop(k) -/
theorem ev_pop {o i : Expr} {p : Addr} {kvs : List (Key × D)} {y : Key} {d : D} {apos : Pos} (ho : EV X o δ μ (Is (.ref p) μ1)) (hi : EV X i δ μ1 (Is (kD y) μ2)) (hp1 : μ1 p = some (.dK kvs)) (hp : μ2 p = some (.dK kvs)) (hl : look kvs y = some d) (h : k d (μ2.put p (.dK (dropD kvs y)))) (m : M1 X o "pop" apos i pos) :
    EV X (.Call (.Attribute o "pop" apos) [i] [] pos) δ μ k := fun σ H Q sr sa q => by
  refine ⟨_, pe_dpop1 (pe_we o) (pe_we i) m, ho σ H _ sr sa fun v d' μ' H1 ⟨e1, e2⟩ kp1 sa1 r1 => ?_⟩
  subst e1 e2
  obtain ⟨ws0, h0, _⟩ := sa1 p _ hp1
  refine ⟨p, r1.ref_eq, .inl ⟨ws0, .inl h0⟩, hi σ H1 _ (sr.keep kp1) sa1 fun u d2 μ'' H2 ⟨e3, e4⟩ kp2 sa2 r2 => ?_⟩
  subst e3 e4
  obtain ⟨ws, h1, h2⟩ := sa2 p _ hp
  obtain ⟨w, h3, h4⟩ := h2.look_some hl
  exact ⟨ws, y, w, h1, rep_kD r2, h3, q _ _ _ _ h ((kp1.trans kp2).trans (Keep.setM hp)) (sa2.setM hp ⟨_, upd_same, (h2.drop y).keep (Keep.setM hp)⟩) (h4.keep (Keep.setM hp))⟩
/-- xs.append(e) -/
theorem ev_app {o : Expr} {p : Addr} {ds0 ds : List D} {d : D} {apos : Pos} (ho : EV X o δ μ (Is (.ref p) μ1)) (he : EV X e δ μ1 (Is d μ2)) (hp1 : μ1 p = some (.lst ds0)) (hp : μ2 p = some (.lst ds)) (hz : ds.length < 100000) (h : k .non (μ2.put p (.lst (ds ++ [d]))))
    (hbase : attributeBase o "append" X.env (eval o X.env) = eval o X.env := by rfl)
    (hfew : ((backTo pos (starEach [e] X.env)).all (fun x => !x.1) && (backToKw pos (keywordEach [] X.env)).all (fun x => x.1.isSome)
      && decide (([e] : List Expr).length + ([] : List Keyword).length + (if ([] : List Keyword).isEmpty then 0 else 1) < 30)) = true := by rfl)
    (hline : (apos.endLine == pos.line) = true := by rfl) (hs : starEach [e] X.env = (false, eval e X.env) :: starEach [] X.env := by rfl) :
    EV X (.Call (.Attribute o "append" apos) [e] [] pos) δ μ k := fun σ H Q sr sa q => by
  refine ⟨_, pe_bm PySem.F.plainAttrs_list PySem.F.slot_list_append PySem.F.type_list_append mt_append (pe_we o) (pa_cons (pe_we e) pa_nil hs) hbase hfew hline hs rfl, ho σ H _ sr sa fun v d' μ' H1 ⟨e1, e2⟩ kp1 sa1 r1 => ?_⟩
  subst e1 e2
  obtain ⟨vs0, h0, _⟩ := sa1 p _ hp1
  have hv := r1.ref_eq
  subst hv
  refine ⟨.inl ⟨rfl, vs0, SqL.of h0⟩, he σ H1 _ (sr.keep kp1) sa1 fun u d2 μ'' H2 ⟨e3, e4⟩ kp2 sa2 r2 => ?_⟩
  subst e3 e4
  obtain ⟨vs, h1, h2⟩ := sa2 p _ hp
  refine ⟨p, vs, u, rfl, rfl, h1, by rw [h2.length]; exact Nat.lt_of_lt_of_le hz (by decide), ?_⟩
  exact q _ _ _ _ h ((kp1.trans kp2).trans (Keep.setM hp)) (sa2.setM hp ⟨_, upd_same, (h2.append (.cons r2 .nil)).keep (Keep.setM hp)⟩) .non
/-! ### slices -/
def cutD (ds : List D) (lo hi : Option Int) : List D := (ds.drop (HT.sIx ds.length 0 lo)).take (HT.sIx ds.length ds.length hi - HT.sIx ds.length 0 lo)
def WSl (X : Cx) : V → Option Int → Option Int → Hp → L2.VK → Prop := fun x lo hi H Q => ∃ r, SlR X r ∧ r x lo hi H Q
theorem sl_w : SlR X (WSl X) := fun pins s σ H x v vl vu lo hi sl Q I rx hs pl pu ⟨r, h, q⟩ => h pins s σ H x v vl vu lo hi sl Q I rx hs pl pu q
inductive OV (X : Cx) (δ : DS) : Option Expr → Mem → Option Int → Mem → Prop
  | none {μ : Mem} : OV X δ .none μ .none μ
  | some {e : Expr} {μ μ1 : Mem} {i : Int} (h : EV X e δ μ (Is (.int i) μ1)) : OV X δ (.some e) μ (.some i) μ1
def WOp (X : Cx) (e : Option Expr) : TO := fun σ H Q => ∃ t, PO X e t ∧ t σ H Q
theorem po_w (e : Option Expr) : PO X e (WOp X e) := ⟨fun pins s σ H Q I ⟨_, h, q⟩ => h.run pins s σ H Q I q⟩
theorem OV.run {o : Option Expr} {i : Option Int} (h : OV X δ o μ i μ1) {σ : St} {H : Hp} {Q : Option Int → Hp → Prop} (sr : SR X.K μ H σ δ) (sa : Sat X.K μ H) (q : ∀ H', Keep μ H μ1 H' → Sat X.K μ1 H' → Q i H') : WOp X o σ H Q := by
  cases h with
  | none => exact ⟨_, po_none, q H Keep.refl sa⟩
  | some h => exact ⟨_, po_some (pe_we _), h σ H _ sr sa fun v d μ' H1 ⟨e1, e2⟩ kp1 sa1 r1 => by subst e1 e2; exact ⟨_, r1.int_eq, q H1 kp1 sa1⟩⟩
theorem ev_slice {a : Expr} {lo hi : Option Expr} {p2 : Pos} {x : D} {l u : Option Int} {μ3 : Mem} (he : EV X a δ μ (Is x μ1)) (hl : OV X δ lo μ1 l μ2) (hh : OV X δ hi μ2 u μ3) (h : UD X.K (fun v H Q => WSl X v l u H Q) x μ3 k) : EV X (.Subscript a (.Slice lo hi none p2) pos) δ μ k := fun σ H Q sr sa q => by
  refine ⟨_, pe_slice sl_w (pe_we a) (po_w lo) (po_w hi), he σ H _ sr sa fun v d μ' H1 ⟨e1, e2⟩ kp1 sa1 r1 => ?_⟩
  subst e1 e2
  refine hl.run (sr.keep kp1) sa1 fun H2 kp2 sa2 => hh.run (sr.keep (kp1.trans kp2)) sa2 fun H3 kp3 sa3 => ?_
  exact h v H3 Q ((r1.keep kp2).keep kp3) sa3 (q.keep ((kp1.trans kp2).trans kp3))
end
section
variable {X : Cx} {μ : Mem} {k : D → Mem → Prop} {ds : List D} {lo hi : Option Int}
theorem cut_reps {K : PySem.W.Frag} {H : Hp} {vs : List V} (r : Reps K μ H vs ds) (lo hi : Option Int) : Reps K μ H (cutV vs lo hi) (cutD ds lo hi) := by
  unfold cutV cutD
  rw [r.length]
  exact (r.drop _).take _
theorem sd_tup (h : k (.tup (cutD ds lo hi)) μ) : UD X.K (fun v H Q => WSl X v lo hi H Q) (.tup ds) μ k := fun v H Q a sa q => by
  obtain ⟨p, vs, rfl, hp, mp, r⟩ := a.tup_at
  refine ⟨_, sl_tupA, p, vs, rfl, SqT.of hp, fun hw => ?_, fun hw p2 n => ?_⟩
  · have e : cutD ds lo hi = ds := by
      rw [r.length] at hw
      unfold cutD
      rw [hw.1, hw.2, List.drop_zero, Nat.sub_zero, List.take_length]
    rw [e] at h
    exact q _ _ μ H h Keep.refl sa (.tup hp mp r)
  · exact q _ _ μ _ h (Keep.new n) (sa.new n) (.tup upd_same (sa.fresh n) ((cut_reps r lo hi).keep (Keep.new n)))
/-- a list that is read: of the memory, standing still, or the script -/
def LR (μ : Mem) (x : D) (ds : List D) : Prop := LD μ x ds ∨ ∃ ns, x = .scr ns ∧ ds = ns.map .int
theorem LR.at_ {K : PySem.W.Frag} {H : Hp} {v : V} {x : D} (h : LR μ x ds) (sa : Sat K μ H) (r : Rep K μ H v x) : ∃ p vs, v = .ref p ∧ SqL K H p vs ∧ Reps K μ H vs ds := by
  rcases h with h | ⟨ns, rfl, rfl⟩
  · obtain ⟨p, vs, e, h1, r1⟩ := h.at_ sa r
    exact ⟨p, vs, e, SqL.of h1, r1⟩
  · cases r with
    | @scr a ns h =>
      refine ⟨a, _, rfl, ?_, Reps.ofInts ns⟩
      rcases h with ⟨h, _⟩ | h
      · exact .inl h
      · exact h H
theorem LR.l : LR μ (.lst ds) ds := .inl (.inl rfl)
theorem LR.m {p : Addr} (h : μ p = some (.lst ds)) : LR μ (.ref p) ds := .inl (.inr ⟨p, rfl, h⟩)
theorem LR.s {ns : List Int} : LR μ (.scr ns) (ns.map .int) := .inr ⟨ns, rfl, rfl⟩
theorem sd_lst {x : D} (hx : LR μ x ds) (h : NewL μ (cutD ds lo hi) k) : UD X.K (fun v H Q => WSl X v lo hi H Q) x μ k := fun v H Q a sa q => by
  obtain ⟨p, vs, rfl, hp, r⟩ := hx.at_ sa a
  exact ⟨_, sl_list, p, vs, rfl, hp, fun p2 n => h.go sa q (cut_reps r lo hi) n⟩
/-! ### built-in functions over data -/
theorem cd_of {f : Value} {r : List V → Hp → L2.VK → Prop} {K : PySem.W.Frag} (hc : CallR X f r) (h : CD K r ds μ k) : CD K (WC X f) ds μ k := fun vs H Q a b c => ⟨r, hc, h vs H Q a b c⟩
theorem reps1 {K : PySem.W.Frag} {H : Hp} {vs : List V} {d : D} (r : Reps K μ H vs [d]) : ∃ v, vs = [v] ∧ Rep K μ H v d := by
  cases r with
  | cons h t => cases t; exact ⟨_, rfl, h⟩
theorem reps2 {K : PySem.W.Frag} {H : Hp} {vs : List V} {d e : D} (r : Reps K μ H vs [d, e]) : ∃ v w, vs = [v, w] ∧ Rep K μ H v d ∧ Rep K μ H w e := by
  cases r with
  | cons h t =>
    obtain ⟨w, e, h2⟩ := reps1 t
    exact ⟨_, w, by rw [e], h, h2⟩
/-- a tuple or a list, of which the length, the items are asked -/
def SqD (μ : Mem) (x : D) (ds : List D) : Prop := x = .tup ds ∨ LR μ x ds
theorem cd_len {x : D} (hx : SqD μ x ds) (h : k (.int ds.length) μ) : CD X.K (WC X (.builtin "len")) [x] μ k := cd_of call_len_seq fun vs H Q a sa q => by
  obtain ⟨v, rfl, r⟩ := reps1 a
  rcases hx with rfl | hx
  · obtain ⟨p, ws, rfl, hp, mp, r2⟩ := r.tup_at
    exact ⟨p, ws, rfl, .inr (SqT.of hp), by rw [r2.length]; exact q _ _ μ H h Keep.refl sa (.int _)⟩
  · obtain ⟨p, ws, rfl, hp, r2⟩ := hx.at_ sa r
    exact ⟨p, ws, rfl, .inl hp, by rw [r2.length]; exact q _ _ μ H h Keep.refl sa (.int _)⟩
theorem cd_tuple {x : D} (hx : SqD μ x ds) (h : k (.tup ds) μ) : CD X.K (WC X (.type "tuple")) [x] μ k := cd_of call_tuple_of fun vs H Q a sa q => by
  obtain ⟨v, rfl, r⟩ := reps1 a
  rcases hx with rfl | hx
  · obtain ⟨p, ws, rfl, hp, mp, r2⟩ := r.tup_at
    exact ⟨p, ws, rfl, .inr ⟨SqT.of hp, q _ _ μ H h Keep.refl sa (.tup hp mp r2)⟩⟩
  · obtain ⟨p, ws, rfl, hp, r2⟩ := hx.at_ sa r
    exact ⟨p, ws, rfl, .inl ⟨hp, fun l n => q _ _ μ _ h (Keep.new n) (sa.new n) (.tup upd_same (sa.fresh n) (r2.keep (Keep.new n)))⟩⟩
theorem cd_int {K : PySem.W.Frag} {i : Int} (h : k (.int i) μ) : CD K (WC X (.type "int")) [.int i] μ k := cd_of call_int1 fun vs H Q a sa q => by
  obtain ⟨v, rfl, r⟩ := reps1 a
  exact .inl ⟨i, by rw [r.int_eq], q _ _ μ H h Keep.refl sa (.int _)⟩
theorem cd_intB {K : PySem.W.Frag} {b : Bool} (h : k (.int (if b then 1 else 0)) μ) : CD K (WC X (.type "int")) [.bl b] μ k := cd_of call_int1 fun vs H Q a sa q => by
  obtain ⟨v, rfl, r⟩ := reps1 a
  exact .inr ⟨b, by rw [r.bl_eq], q _ _ μ H h Keep.refl sa (.int _)⟩
theorem cd_abs {K : PySem.W.Frag} {i : Int} (h : k (.int (if i < 0 then -i else i)) μ) : CD K (WC X (.builtin "abs")) [.int i] μ k := cd_of call_abs fun vs H Q a sa q => by
  obtain ⟨v, rfl, r⟩ := reps1 a
  exact ⟨i, by rw [r.int_eq], q _ _ μ H h Keep.refl sa (.int _)⟩
theorem cd_max {K : PySem.W.Frag} {i j : Int} (hc : X.calm = true) (h : k (.int (if j > i then j else i)) μ) : CD K (WC X (.builtin "max")) [.int i, .int j] μ k := cd_of (call_max2 hc) fun vs H Q a sa q => by
  obtain ⟨v, w, rfl, r, r2⟩ := reps2 a
  exact ⟨i, j, by rw [r.int_eq, r2.int_eq], q _ _ μ H h Keep.refl sa (.int _)⟩
theorem cd_min {K : PySem.W.Frag} {i j : Int} (hc : X.calm = true) (h : k (.int (if j < i then j else i)) μ) : CD K (WC X (.builtin "min")) [.int i, .int j] μ k := cd_of (call_min2 hc) fun vs H Q a sa q => by
  obtain ⟨v, w, rfl, r, r2⟩ := reps2 a
  exact ⟨i, j, by rw [r.int_eq, r2.int_eq], q _ _ μ H h Keep.refl sa (.int _)⟩
theorem cd_sum {x : D} {ns : List Int} (hc : X.calm = true) (hx : LR μ x (ns.map .int)) (h : k (.int ns.sum) μ) : CD X.K (WC X (.builtin "sum")) [x] μ k := cd_of (cr_sum hc) fun vs H Q a sa q => by
  obtain ⟨v, rfl, r⟩ := reps1 a
  obtain ⟨p, ws, rfl, hp, r2⟩ := hx.at_ sa r
  rw [r2.ints] at hp
  exact ⟨p, ns, rfl, hp, q _ _ μ H h Keep.refl sa (.int _)⟩
theorem cd_any {x : D} {bs : List Bool} (hc : X.calm = true) (hx : LR μ x (bs.map .bl)) (h : k (.bl (bs.any id)) μ) : CD X.K (WC X (.builtin "any")) [x] μ k := cd_of (cr_any hc) fun vs H Q a sa q => by
  obtain ⟨v, rfl, r⟩ := reps1 a
  obtain ⟨p, ws, rfl, hp, r2⟩ := hx.at_ sa r
  rw [r2.bls] at hp
  exact ⟨p, bs, rfl, hp, q _ _ μ H h Keep.refl sa (.bl _)⟩
theorem cd_all {x : D} {bs : List Bool} (hc : X.calm = true) (hx : LR μ x (bs.map .bl)) (h : k (.bl (bs.all id)) μ) : CD X.K (WC X (.builtin "all")) [x] μ k := cd_of (cr_all hc) fun vs H Q a sa q => by
  obtain ⟨v, rfl, r⟩ := reps1 a
  obtain ⟨p, ws, rfl, hp, r2⟩ := hx.at_ sa r
  rw [r2.bls] at hp
  exact ⟨p, bs, rfl, hp, q _ _ μ H h Keep.refl sa (.bl _)⟩
theorem RKV.dkeys {κ : Type} {K : PySem.W.Frag} {H : Hp} {ws : List (κ × V)} {kvs : List (κ × D)} (h : RKV K μ H ws kvs) : ws.map (·.1) = kvs.map (·.1) := by
  induction h with
  | nil => rfl
  | cons hh t ih => rw [List.map_cons, List.map_cons, ih, hh.1]
theorem cd_sortedDI {K : PySem.W.Frag} {p : Addr} {kvs : List (Key × D)} {ks : List Int} (hc : X.calm = true) (hp : μ p = some (.dK kvs)) (hk : kvs.map (·.1) = ks.map Sum.inl) (hz : ks.length < 64) (h : ∀ ys : List Int, ys.Perm ks → ys.Pairwise (· ≤ ·) → k (.lst (ys.map .int)) μ) :
    CD K (WC X (.builtin "sorted")) [.ref p] μ k := cd_of (call_sortedDI hc) fun vs H Q a sa q => by
  obtain ⟨v, rfl, r⟩ := reps1 a
  obtain ⟨ws, h1, h2⟩ := sa p _ hp
  refine ⟨p, ws, ks, by rw [r.ref_eq], .inl h1, by rw [h2.dkeys]; exact hk, hz, fun ys l hy1 hy2 n => ?_⟩
  exact q _ _ μ _ (h ys hy1 hy2) (Keep.new n) (sa.new n) (.lst upd_same (sa.fresh n) (Reps.ofInts ys))
end
end DL
set_option Elab.async false
set_option linter.all false
set_option maxRecDepth 100000
set_option maxHeartbeats 1000000
/-! Data layer, part 4: tests, statements, targets, loops, comprehensions. -/
namespace DL
open PySem PySem.Spec PyProof.Rows L2

/-! ### tests -/
section
variable {X : Cx} {δ : DS} {μ μ1 μ2 : Mem} {k : Bool → Mem → Prop} {a b e : Expr} {rest : List Expr} {pos : Pos}
theorem tv_val0 (h : EV X e δ μ fun d μ1 => ∃ c, d = .bl c ∧ k c μ1) (he : ∀ whole, isTrue e X.env whole = (do let v ← whole; standAt e.pos; holding [v] (truthy v)) := by intro _; rfl) : TV X e δ μ k := fun σ H Q sr sa q =>
  ⟨_, pt_val (pe_we e) he, h σ H _ sr sa fun v d μ1 H1 ⟨c, e1, hk⟩ kp1 sa1 r1 => by subst e1; exact ⟨c, r1.bl_eq, q c μ1 H1 hk kp1 sa1⟩⟩
theorem tv_cmp0 {op : CmpOp} {x y : D} (ha : EV X a δ μ (Is x μ1)) (hb : EV X b δ μ1 (Is y μ2)) (h : RD X.K (WO X (compareOp op)) x y μ2 fun d μ3 => ∃ c, d = .bl c ∧ k c μ3) (hm : behindInMarks op b = false := by first | exact nomark _ | rfl) : TV X (.Compare a [op] [b] pos) δ μ k := fun σ H Q sr sa q =>
  ⟨_, pt_cmpR (op_wo _) (pe_we a) (pe_we b) hm, ha σ H _ sr sa fun v x' μ' H1 ⟨e1, e2⟩ kp1 sa1 r1 => by
    subst e1 e2
    exact hb σ H1 _ (sr.keep kp1) sa1 fun u y' μ'' H2 ⟨e3, e4⟩ kp2 sa2 r2 => by
      subst e3 e4
      exact h v u H2 _ (r1.keep kp2) r2 sa2 fun w d μ3 H3 ⟨c, e5, hk⟩ kp3 sa3 r3 => by subst e5; exact ⟨c, r3.bl_eq, q c μ3 H3 hk ((kp1.trans kp2).trans kp3) sa3⟩⟩
theorem tv_cmp {op : CmpOp} {x y : D} {c : Bool} (ha : EV X a δ μ (Is x μ1)) (hb : EV X b δ μ1 (Is y μ2)) (h : RD X.K (WO X (compareOp op)) x y μ2 (Is (.bl c) μ2)) (hk : k c μ2) (hm : behindInMarks op b = false := by first | exact nomark _ | rfl) : TV X (.Compare a [op] [b] pos) δ μ k :=
  tv_cmp0 ha hb (fun v u H Q a1 a2 a3 a4 => h v u H Q a1 a2 a3 fun w d μ3 H3 ⟨e1, e2⟩ kp s r => a4 w d μ3 H3 ⟨c, e1, by rw [e2]; exact hk⟩ kp s r) hm
theorem tv_isN {x : D} (ha : EV X a δ μ (Is x μ1)) {j pos'} (h : k (isNon x) μ1) : TV X (.Compare a [.Is] [.Constant .none j pos'] pos) δ μ k := fun σ H Q sr sa q =>
  ⟨_, pt_cmp (pc_isN (pe_we a)) rfl, ha σ H _ sr sa fun v x' μ' H1 ⟨e1, e2⟩ kp1 sa1 r1 => by
    subst e1 e2
    have e : decide (v = .non) = isNon x' := by cases r1 <;> rfl
    exact ⟨_, rfl, by rw [e]; exact q _ _ H1 h kp1 sa1⟩⟩
theorem tv_notN {x : D} (ha : EV X a δ μ (Is x μ1)) {j pos'} (h : k (!isNon x) μ1) : TV X (.Compare a [.IsNot] [.Constant .none j pos'] pos) δ μ k := fun σ H Q sr sa q =>
  ⟨_, pt_cmp (pc_notN (pe_we a)) rfl, ha σ H _ sr sa fun v x' μ' H1 ⟨e1, e2⟩ kp1 sa1 r1 => by
    subst e1 e2
    have e : (!decide (v = .non)) = !isNon x' := by cases r1 <;> rfl
    exact ⟨_, rfl, by rw [e]; exact q _ _ H1 h kp1 sa1⟩⟩
theorem tv_not (h : TV X a δ μ fun c μ1 => k (!c) μ1) : TV X (.UnaryOp .Not a pos) δ μ k := fun σ H Q sr sa q =>
  ⟨_, pt_not (pt_wt a), h σ H _ sr sa fun c μ1 H1 hk kp1 sa1 => q _ μ1 H1 hk kp1 sa1⟩
theorem tv_w (h : WV X e δ μ k) : TV X e δ μ k := fun σ H Q sr sa q => ⟨_, (pw_ww e).pt, h σ H Q sr sa q⟩
theorem wv_and1 (h : TV X a δ μ k) : WV X (.BoolOp .And [a] pos) δ μ k := fun σ H Q sr sa q => ⟨_, pw_and1 (pt_wt a), h σ H Q sr sa q⟩
theorem wv_or1 (h : TV X a δ μ k) : WV X (.BoolOp .Or [a] pos) δ μ k := fun σ H Q sr sa q => ⟨_, pw_or1 (pt_wt a), h σ H Q sr sa q⟩
theorem wv_and (h : TV X a δ μ fun c μ1 => (c = true → WV X (.BoolOp .And (b :: rest) pos) δ μ1 k) ∧ (c = false → k false μ1)) : WV X (.BoolOp .And (a :: b :: rest) pos) δ μ k := fun σ H Q sr sa q =>
  ⟨_, pw_and (pt_wt a) (pw_ww _), h σ H _ sr sa fun c μ1 H1 hk kp1 sa1 => by
    cases c with
    | true => exact hk.1 rfl σ H1 Q (sr.keep kp1) sa1 (q.keep kp1)
    | false => exact q _ μ1 H1 (hk.2 rfl) kp1 sa1⟩
theorem wv_or (h : TV X a δ μ fun c μ1 => (c = false → WV X (.BoolOp .Or (b :: rest) pos) δ μ1 k) ∧ (c = true → k true μ1)) : WV X (.BoolOp .Or (a :: b :: rest) pos) δ μ k := fun σ H Q sr sa q =>
  ⟨_, pw_or (pt_wt a) (pw_ww _), h σ H _ sr sa fun c μ1 H1 hk kp1 sa1 => by
    cases c with
    | false => exact hk.1 rfl σ H1 Q (sr.keep kp1) sa1 (q.keep kp1)
    | true => exact q _ μ1 H1 (hk.2 rfl) kp1 sa1⟩
/-- .. as values -/
theorem ev_one {op} {ke : D → Mem → Prop} (h : EV X a δ μ ke) : EV X (.BoolOp op [a] pos) δ μ ke := fun σ H Q sr sa q => ⟨_, pe_one (pe_we a), h σ H Q sr sa q⟩
theorem ev_and {ke : D → Mem → Prop} (h : EV X a δ μ fun d μ1 => ∃ c, d = .bl c ∧ (c = true → EV X (.BoolOp .And (b :: rest) pos) δ μ1 ke) ∧ (c = false → ke (.bl false) μ1)) : EV X (.BoolOp .And (a :: b :: rest) pos) δ μ ke := fun σ H Q sr sa q =>
  ⟨_, pe_and (pe_we a) (pe_we _), h σ H _ sr sa fun v d μ1 H1 ⟨c, e1, hk⟩ kp1 sa1 r1 => by
    subst e1
    refine ⟨c, r1.bl_eq, ?_⟩
    cases c with
    | true => exact hk.1 rfl σ H1 Q (sr.keep kp1) sa1 (q.keep kp1)
    | false => exact q _ _ μ1 H1 (hk.2 rfl) kp1 sa1 (.bl _)⟩
theorem ev_or {ke : D → Mem → Prop} (h : EV X a δ μ fun d μ1 => ∃ c, d = .bl c ∧ (c = false → EV X (.BoolOp .Or (b :: rest) pos) δ μ1 ke) ∧ (c = true → ke (.bl true) μ1)) : EV X (.BoolOp .Or (a :: b :: rest) pos) δ μ ke := fun σ H Q sr sa q =>
  ⟨_, pe_or (pe_we a) (pe_we _), h σ H _ sr sa fun v d μ1 H1 ⟨c, e1, hk⟩ kp1 sa1 r1 => by
    subst e1
    refine ⟨c, r1.bl_eq, ?_⟩
    cases c with
    | false => exact hk.1 rfl σ H1 Q (sr.keep kp1) sa1 (q.keep kp1)
    | true => exact q _ _ μ1 H1 (hk.2 rfl) kp1 sa1 (.bl _)⟩
theorem ev_not {ke : D → Mem → Prop} (h : EV X a δ μ fun d μ1 => ∃ c, d = .bl c ∧ ke (.bl (!c)) μ1) : EV X (.UnaryOp .Not a pos) δ μ ke := fun σ H Q sr sa q =>
  ⟨_, pe_not (pe_we a), h σ H _ sr sa fun v d μ1 H1 ⟨c, e1, hk⟩ kp1 sa1 r1 => by
    subst e1
    exact ⟨c, r1.bl_eq, q _ _ μ1 H1 hk kp1 sa1 (.bl _)⟩⟩
end

/-! .. of two, nothing changed on the way -/
section
variable {X : Cx} {δ : DS} {μ : Mem} {a b : Expr} {pos : Pos} {c1 c2 : Bool}
theorem tv_and2 (ha : TV X a δ μ (IsB c1 μ)) (hb : c1 = true → TV X b δ μ (IsB c2 μ)) : TV X (.BoolOp .And [a, b] pos) δ μ (IsB (c1 && c2) μ) :=
  tv_w (wv_and (ha.mono fun d μ1 ⟨e1, e2⟩ => by
    subst e1 e2
    refine ⟨fun h => wv_and1 ((hb h).mono fun d μ2 ⟨e3, e4⟩ => ⟨by rw [e3, h, Bool.true_and], e4⟩), fun h => ⟨by rw [h, Bool.false_and], rfl⟩⟩))
theorem tv_or2 (ha : TV X a δ μ (IsB c1 μ)) (hb : c1 = false → TV X b δ μ (IsB c2 μ)) : TV X (.BoolOp .Or [a, b] pos) δ μ (IsB (c1 || c2) μ) :=
  tv_w (wv_or (ha.mono fun d μ1 ⟨e1, e2⟩ => by
    subst e1 e2
    refine ⟨fun h => wv_or1 ((hb h).mono fun d μ2 ⟨e3, e4⟩ => ⟨by rw [e3, h, Bool.false_or], e4⟩), fun h => ⟨by rw [h, Bool.true_or], rfl⟩⟩))
theorem tv_not2 (ha : TV X a δ μ (IsB c1 μ)) : TV X (.UnaryOp .Not a pos) δ μ (IsB (!c1) μ) := tv_not (ha.mono fun d μ1 ⟨e1, e2⟩ => ⟨by rw [e1], e2⟩)
theorem tv_val (h : EV X a δ μ (Is (.bl c1) μ)) (he : ∀ whole, isTrue a X.env whole = (do let v ← whole; standAt a.pos; holding [v] (truthy v)) := by intro _; rfl) : TV X a δ μ (IsB c1 μ) := tv_val0 (h.mono fun d μ1 ⟨e1, e2⟩ => ⟨c1, e1, rfl, e2⟩) he
theorem ev_and2 (ha : EV X a δ μ (Is (.bl c1) μ)) (hb : c1 = true → EV X b δ μ (Is (.bl c2) μ)) : EV X (.BoolOp .And [a, b] pos) δ μ (Is (.bl (c1 && c2)) μ) :=
  ev_and (ha.mono fun d μ1 ⟨e1, e2⟩ => by
    subst e1 e2
    exact ⟨c1, rfl, fun h => ev_one ((hb h).mono fun d μ2 ⟨e3, e4⟩ => ⟨by rw [e3, h, Bool.true_and], e4⟩), fun h => ⟨by rw [h, Bool.false_and], rfl⟩⟩)
theorem ev_or2 (ha : EV X a δ μ (Is (.bl c1) μ)) (hb : c1 = false → EV X b δ μ (Is (.bl c2) μ)) : EV X (.BoolOp .Or [a, b] pos) δ μ (Is (.bl (c1 || c2)) μ) :=
  ev_or (ha.mono fun d μ1 ⟨e1, e2⟩ => by
    subst e1 e2
    exact ⟨c1, rfl, fun h => ev_one ((hb h).mono fun d μ2 ⟨e3, e4⟩ => ⟨by rw [e3, h, Bool.false_or], e4⟩), fun h => ⟨by rw [h, Bool.true_or], rfl⟩⟩)
theorem ev_not2 (ha : EV X a δ μ (Is (.bl c1) μ)) : EV X (.UnaryOp .Not a pos) δ μ (Is (.bl (!c1)) μ) := ev_not (ha.mono fun d μ1 ⟨e1, e2⟩ => ⟨c1, e1, rfl, e2⟩)
end

/-! ### statements -/
section
variable {X : Cx} {δ : DS} {μ μ1 μ2 : Mem} {k : DE} {st : Stmt} {ss : List Stmt} {e o i : Expr} {pos pos' : Pos}
theorem sv_nil (h : k.nx δ μ) : SV X [] δ μ k := fun σ H E sr sa q => ⟨_, pss_nil, q.nx σ δ μ H h Keep.refl sa sr⟩
theorem sv_cons (h : S1 X st δ μ { k with nx := fun δ' μ' => SV X ss δ' μ' k }) : SV X (st :: ss) δ μ k := fun σ H E sr sa q =>
  ⟨_, pss_cons (ps_ws st) (pss_wss ss), h σ H _ sr sa ⟨fun σ' δ' μ' H' h1 kp sa' sr' => h1 σ' H' E sr' sa' (q.keep kp), q.rt, q.bk, q.ct⟩⟩
theorem sv_one (h : S1 X st δ μ k) : SV X [st] δ μ k := fun σ H E sr sa q => ⟨_, pss_one (ps_ws st), h σ H E sr sa q⟩
theorem s1_set (j : Nat) {x : Str} (hN : X.N.Nodup) (h : EV X e δ μ fun d μ1 => k.nx (δ.set j (some d)) μ1) (hi : X.N[j]? = some x := by rfl) (hx : Loc X.env.scope x := by first | exact .inl rfl | exact .inr rfl)
    (hs : swapsWith e (some (.Name x pos')) pos.line X.env = pure false := by rfl) (hf : X.fn x = true ∨ X.env.scope.names.lookup x = some .local := by first | exact .inl rfl | exact .inr rfl) : S1 X (.Assign [.Name x pos'] e pos) δ μ k := fun σ H E sr sa q =>
  ⟨_, ps_set (i := j) hN hi hx (pe_we e) hs hf, h σ H _ sr sa fun v d μ1 H1 hk kp1 sa1 r1 => q.nx _ _ _ _ hk kp1 sa1 ((sr.keep kp1).set r1 j)⟩
theorem s1_ret (h : EV X e δ μ k.rt) : S1 X (.Return (some e) pos) δ μ k := fun σ H E sr sa q => ⟨_, ps_ret (pe_we e), h σ H _ sr sa q.rt⟩
theorem s1_expr (h : EV X e δ μ fun _ μ1 => k.nx δ μ1) (hs : swapsWith e none pos.line X.env = pure false := by rfl) : S1 X (.Expr e pos) δ μ k := fun σ H E sr sa q =>
  ⟨_, ps_expr (pe_we e) hs, h σ H _ sr sa fun v d μ1 H1 hk kp1 sa1 r1 => q.nx _ _ _ _ hk kp1 sa1 (sr.keep kp1)⟩
theorem s1_if {c : Expr} {a b : List Stmt} (h : TV X c δ μ fun t μ1 => (t = true → SV X a δ μ1 k) ∧ (t = false → SV X b δ μ1 k)) : S1 X (.If c a b pos) δ μ k := fun σ H E sr sa q =>
  ⟨_, ps_if (pt_wt c) (pss_wss a) (pss_wss b), h σ H _ sr sa fun t μ1 H1 hk kp1 sa1 => by
    cases t with
    | true => exact hk.1 rfl σ H1 E (sr.keep kp1) sa1 (q.keep kp1)
    | false => exact hk.2 rfl σ H1 E (sr.keep kp1) sa1 (q.keep kp1)⟩
/-- if, the test's answer known by name -/
theorem s1_ifB {c1 : Bool} {c : Expr} {s t : List Stmt} (h : TV X c δ μ (IsB c1 μ1)) (h1 : c1 = true → SV X s δ μ1 k) (h2 : c1 = false → SV X t δ μ1 k) : S1 X (.If c s t pos) δ μ k :=
  s1_if (h.mono fun d μ2 ⟨e1, e2⟩ => by subst e1 e2; exact ⟨h1, h2⟩)
theorem s1_cont (h : k.ct δ μ) : S1 X (.Continue pos) δ μ k := fun σ H E sr sa q => ⟨_, ps_continue, q.ct σ δ μ H h Keep.refl sa sr⟩
theorem s1_pass (h : k.nx δ μ) : S1 X (.Pass pos) δ μ k := fun σ H E sr sa q => ⟨_, ps_pass, q.nx σ δ μ H h Keep.refl sa sr⟩
/-- o.f = e -/
theorem s1_fld {f : Str} {C a : Addr} {fs : List (Str × D)} (c : Cls X.K C) (n : NoAttr X.K C f) (h : EV X e δ μ fun d μ1 => EV X o δ μ1 fun d2 μ2 => d2 = .ref a ∧ μ2 a = some (.ins C fs) ∧ fs.length < 1000 ∧ k.nx δ (μ2.put a (.ins C (putFD f d fs))))
    (hs : swapsWith e (some (.Attribute o f pos')) pos.line X.env = pure false := by rfl) : S1 X (.Assign [.Attribute o f pos'] e pos) δ μ k := fun σ H E sr sa q => by
  refine ⟨_, ps_fld (pe_we o) (pe_we e) hs, h σ H _ sr sa fun v d μ1 H1 h1 kp1 sa1 r1 => h1 σ H1 _ (sr.keep kp1) sa1 fun u d2 μ2 H2 ⟨e1, ha, hz, hk⟩ kp2 sa2 r2 => ?_⟩
  subst e1
  obtain ⟨dx, ws, h3, h4⟩ := sa2 a _ ha
  refine ⟨a, C, dx, ws, r2.ref_eq, h3, c, n, by rw [Paired.length h4]; exact hz, ?_⟩
  have kk : Keep μ2 H2 (μ2.put a (.ins C (putFD f d fs))) (upd H2 a (.ins C dx (putF f v ws))) := Keep.setM ha
  exact q.nx _ _ _ _ hk ((kp1.trans kp2).trans kk) (sa2.setM ha ⟨dx, _, upd_same, (Rput (r1.keep kp2) f h4).keep kk⟩) ((sr.keep (kp1.trans kp2)).keep kk)
/-- d[y] = e -/
theorem s1_dput {p : Addr} {kvs : List (Key × D)} {y : Key} (hu : X.A.units + 1 < cLine) (h : EV X e δ μ fun d μ1 => EV X o δ μ1 fun d2 μ2 => d2 = .ref p ∧ EV X i δ μ2 fun d3 μ3 => d3 = kD y ∧ μ3 p = some (.dK kvs) ∧ kvs.length < 100000 ∧ k.nx δ (μ3.put p (.dK (putD kvs y d))))
    (hs : swapsWith e (some (.Subscript o i pos')) pos.line X.env = pure false := by rfl) : S1 X (.Assign [.Subscript o i pos'] e pos) δ μ k := fun σ H E sr sa q => by
  refine ⟨_, ps_dput hu (pe_we o) (pe_we i) (pe_we e) hs, h σ H _ sr sa fun v d μ1 H1 h1 kp1 sa1 r1 => h1 σ H1 _ (sr.keep kp1) sa1 fun u d2 μ2 H2 ⟨e1, h2⟩ kp2 sa2 r2 => ?_⟩
  subst e1
  refine h2 σ H2 _ (sr.keep (kp1.trans kp2)) sa2 fun z d3 μ3 H3 ⟨e2, hp, hz, hk⟩ kp3 sa3 r3 => ?_
  subst e2
  obtain ⟨ws, h3, h4⟩ := sa3 p _ hp
  rw [rep_kD r3]
  refine ⟨p, _, r2.ref_eq, DPut.k h3 (by rw [Paired.length h4]; exact Nat.lt_of_lt_of_le hz (by decide)), ?_⟩
  have kk : Keep μ3 H3 (μ3.put p (.dK (putD kvs y d))) (upd H3 p (.dK (putK ws y v))) := Keep.setM hp
  exact q.nx _ _ _ _ hk (((kp1.trans kp2).trans kp3).trans kk) (sa3.setM hp ⟨_, upd_same, (h4.put y ((r1.keep kp2).keep kp3)).keep kk⟩) ((sr.keep ((kp1.trans kp2).trans kp3)).keep kk)
theorem s1_dputT {p : Addr} {kvs : List (List Key × D)} {y : List Key} (hu : X.A.units + 1 < cLine) (h : EV X e δ μ fun d μ1 => EV X o δ μ1 fun d2 μ2 => d2 = .ref p ∧ EV X i δ μ2 fun d3 μ3 => d3 = .tup (y.map kD) ∧ μ3 p = some (.dT kvs) ∧ kvs.length < 100000 ∧ k.nx δ (μ3.put p (.dT (putD kvs y d))))
    (hs : swapsWith e (some (.Subscript o i pos')) pos.line X.env = pure false := by rfl) : S1 X (.Assign [.Subscript o i pos'] e pos) δ μ k := fun σ H E sr sa q => by
  refine ⟨_, ps_dput hu (pe_we o) (pe_we i) (pe_we e) hs, h σ H _ sr sa fun v d μ1 H1 h1 kp1 sa1 r1 => h1 σ H1 _ (sr.keep kp1) sa1 fun u d2 μ2 H2 ⟨e1, h2⟩ kp2 sa2 r2 => ?_⟩
  subst e1
  refine h2 σ H2 _ (sr.keep (kp1.trans kp2)) sa2 fun z d3 μ3 H3 ⟨e2, hp, hz, hk⟩ kp3 sa3 r3 => ?_
  subst e2
  obtain ⟨ws, h3, h4⟩ := sa3 p _ hp
  obtain ⟨b, vs, rfl, hb, _, rb⟩ := r3.tup_at
  rw [reps_kD rb] at hb
  refine ⟨p, _, r2.ref_eq, DPut.t h3 hb (by rw [Paired.length h4]; exact Nat.lt_of_lt_of_le hz (by decide)), ?_⟩
  have kk : Keep μ3 H3 (μ3.put p (.dT (putD kvs y d))) (upd H3 p (.dT (putK ws y v))) := Keep.setM hp
  exact q.nx _ _ _ _ hk (((kp1.trans kp2).trans kp3).trans kk) (sa3.setM hp ⟨_, upd_same, (h4.put y ((r1.keep kp2).keep kp3)).keep kk⟩) ((sr.keep ((kp1.trans kp2).trans kp3)).keep kk)
/-- xs[i] = e -/
theorem s1_setL {p : Addr} {ds : List D} {n : Int} {j : Nat} (h : EV X e δ μ fun d μ1 => EV X o δ μ1 fun d2 μ2 => d2 = .ref p ∧ EV X i δ μ2 fun d3 μ3 => d3 = .int n ∧ μ3 p = some (.lst ds) ∧ ixN ds.length n = some j ∧ k.nx δ (μ3.put p (.lst (ds.set j d))))
    (ha : ∀ v, assign (.Subscript o i pos') X.env v = (do
      let ov ← holding [v] (eval o X.env)
      let iv ← holding [v, ov] (eval i X.env)
      standAt pos'
      holding [v, ov, iv] (setItem ov iv v)
      release [v, ov, iv] []) := by intro _; rfl)
    (hs : swapsWithSole [.Subscript o i pos'] e pos.line X.env = pure false := by rfl) (hw : swappedStores [.Subscript o i pos'] e X.env = pure none := by rfl)
    (h1 : (assignEach [.Subscript o i pos'] X.env).map (·.2) = [assign (.Subscript o i pos') X.env] := by rfl) : S1 X (.Assign [.Subscript o i pos'] e pos) δ μ k := fun σ H E sr sa q => by
  refine ⟨_, ps_asg (pe_we e) (pg_sub (pe_we o) (pe_we i) set_list ha) hs hw h1, h σ H _ sr sa fun v d μ1 H1 h1 kp1 sa1 r1 => h1 σ H1 _ (sr.keep kp1) sa1 fun u d2 μ2 H2 ⟨e1, h2⟩ kp2 sa2 r2 => ?_⟩
  subst e1
  refine h2 σ H2 _ (sr.keep (kp1.trans kp2)) sa2 fun z d3 μ3 H3 ⟨e2, hp, hz, hk⟩ kp3 sa3 r3 => ?_
  subst e2
  obtain ⟨vs, h3, h4⟩ := sa3 p _ hp
  refine ⟨p, vs, n, j, r2.ref_eq, r3.int_eq, h3, by rw [h4.length]; exact hz, ?_⟩
  have kk : Keep μ3 H3 (μ3.put p (.lst (ds.set j d))) (upd H3 p (.lst (vs.set j v))) := Keep.setM hp
  exact q.nx _ _ _ _ hk (((kp1.trans kp2).trans kp3).trans kk) (sa3.setM hp ⟨_, upd_same, (Reps.set ((r1.keep kp2).keep kp3) j h4).keep kk⟩) ((sr.keep ((kp1.trans kp2).trans kp3)).keep kk)
/-- a, b = e1, e2 (two local names) -/
theorem s1_par (j1 j2 : Nat) {x y : Str} {a b : Expr} {px py pt : Pos} {kt k2 pt2} {d1 d2 : D} (hc : X.calm = true) (hN : X.N.Nodup) (ha : AV X [a, b] δ μ (IsA [d1, d2] μ1)) (hk : k.nx ((δ.set j1 (some d1)).set j2 (some d2)) μ1)
    (hw : swappedStores [.Tuple [.Name x px, .Name y py] kt pt] (.Tuple [a, b] k2 pt2) X.env = pure (some [x, y])) (hi : X.N[j1]? = some x := by rfl) (hj : X.N[j2]? = some y := by rfl) (hij : j1 ≠ j2 := by decide)
    (hx : X.env.scope.names.lookup x = some .local := by rfl) (hy : X.env.scope.names.lookup y = some .local := by rfl)
    (hs : swapsWithSole [.Tuple [.Name x px, .Name y py] kt pt] (.Tuple [a, b] k2 pt2) pos.line X.env = pure false := by rfl) : S1 X (.Assign [.Tuple [.Name x px, .Name y py] kt pt] (.Tuple [a, b] k2 pt2) pos) δ μ k := fun σ H E sr sa q => by
  refine ⟨_, ps_par hc hN hi hj hij hx hy (pa_wa _) hw hs, ha σ H _ sr sa fun vs ds μ' H1 ⟨e1, e2⟩ kp1 sa1 r1 => ?_⟩
  subst e1 e2
  obtain ⟨v, w, rfl, r2, r3⟩ := reps2 r1
  exact ⟨v, w, rfl, q.nx _ _ _ _ hk kp1 sa1 (((sr.keep kp1).set r2 j1).set r3 j2)⟩
end

/-! ### targets -/
def WG' (X : Cx) (tg : Expr) : TG := fun v σ H Q => ∃ g, PG X tg g ∧ g v σ H Q
def WGs (X : Cx) (ts : List Expr) : TGs := fun v σ H Q => ∃ g, PGs X ts g ∧ g v σ H Q
def GV (X : Cx) (tg : Expr) (d : D) (δ : DS) (μ : Mem) (k : DS → Mem → Prop) : Prop := ∀ v σ H Q, Rep X.K μ H v d → SR X.K μ H σ δ → Sat X.K μ H → NK X.K μ H k Q → WG X tg v σ H Q
def GVs (X : Cx) (ts : List Expr) (ds : List D) (δ : DS) (μ : Mem) (k : DS → Mem → Prop) : Prop := ∀ vs σ H Q, Reps X.K μ H vs ds → SR X.K μ H σ δ → Sat X.K μ H → NK X.K μ H k Q → WGs X ts vs σ H Q
section
variable {X : Cx} {δ : DS} {μ μ1 μ2 : Mem} {k : DS → Mem → Prop} {tg : Expr} {ts : List Expr} {pos : Pos} {d : D} {ds : List D}
theorem pg_wg (e : Expr) : PG X e (WG X e) := ⟨fun pins s σ H v u Q I r ⟨_, h, q⟩ => h.run pins s σ H v u Q I r q⟩
theorem pgs_wg (e : List Expr) : PGs X e (WGs X e) := ⟨fun pins s σ H v u Q I r ⟨_, h, q⟩ => h.run pins s σ H v u Q I r q⟩
theorem pi_wi (tg it : Expr) : PI X tg it (WI X tg it) := ⟨fun pins s σ H R I ⟨_, h, q⟩ => h.run pins s σ H R I q⟩
theorem gv_name (j : Nat) {x : Str} (hN : X.N.Nodup) (h : k (δ.set j (some d)) μ) (hi : X.N[j]? = some x := by rfl) (hx : Loc X.env.scope x := by first | exact .inl rfl | exact .inr rfl) (hf : X.fn x = true ∨ X.env.scope.names.lookup x = some .local := by first | exact .inl rfl | exact .inr rfl) :
    GV X (.Name x pos) d δ μ k := fun v σ H Q r sr sa q => ⟨_, pg_name hN hi hx hf, q _ _ _ _ h Keep.refl sa (sr.set r j)⟩
theorem gvs_nil (h : k δ μ) : GVs X [] [] δ μ k := fun vs σ H Q r sr sa q => ⟨_, pgs_nil, by cases r; rfl, q _ _ _ _ h Keep.refl sa sr⟩
theorem gvs_cons (h : GV X tg d δ μ fun δ' μ' => GVs X ts ds δ' μ' k) (hs : (assignEach (tg :: ts) X.env).map (·.2) = assign tg X.env :: (assignEach ts X.env).map (·.2) := by rfl) : GVs X (tg :: ts) (d :: ds) δ μ k := fun vs σ H Q r sr sa q => by
  cases r with
  | cons r1 r2 => exact ⟨_, pgs_cons (pg_wg tg) (pgs_wg ts) hs, _, _, rfl, h _ σ H _ r1 sr sa fun σ' δ' μ' H' h1 kp sa' sr' => h1 _ σ' H' Q (r2.keep kp) sr' sa' (q.keep kp)⟩
theorem gv_tup {kk : Nat} (hc : X.calm = true) (h : GVs X ts ds δ μ k) (hn : (assignEach ts X.env).length = ds.length := by rfl) (hst : (assignEach ts X.env).findIdx? (·.1) = none := by rfl) : GV X (.Tuple ts kk pos) (.tup ds) δ μ k := fun v σ H Q r sr sa q => by
  obtain ⟨p, vs, rfl, hp, mp, r1⟩ := r.tup_at
  exact ⟨_, pg_tup hc (pgs_wg ts) hn hst, p, vs, rfl, SqT.of hp, r1.length, h vs σ H Q r1 sr sa q⟩
/-- target = e -/
theorem s1_asg {e : Expr} {kd : DE} (h : EV X e δ μ fun d μ1 => GV X tg d δ μ1 kd.nx) (hs : swapsWithSole [tg] e pos.line X.env = pure false := by rfl) (hw : swappedStores [tg] e X.env = pure none := by rfl)
    (h1 : (assignEach [tg] X.env).map (·.2) = [assign tg X.env] := by rfl) : S1 X (.Assign [tg] e pos) δ μ kd := fun σ H E sr sa q =>
  ⟨_, ps_asg (pe_we e) (pg_wg tg) hs hw h1, h σ H _ sr sa fun v d μ1 H1 hk kp1 sa1 r1 => hk v σ H1 _ r1 (sr.keep kp1) sa1 (q.nx.keep kp1)⟩
end

/-! ### what is walked -/
structure Yields (K : PySem.W.Frag) (J : It) (μ : Mem) (H : Hp) (ds : List D) (stay : Mem → Prop) : Prop where
  go : ∀ (i : Nat) μ' H', i < ds.length → Keep μ H μ' H' → Sat K μ' H' → stay μ' → J.go i H'
  yld : ∀ (i : Nat) μ' H' x H'', i < ds.length → Keep μ H μ' H' → Sat K μ' H' → stay μ' → J.yld i H' x H'' → H'' = H' ∧ ∃ d, ds[i]? = some d ∧ Rep K μ' H' x d
  stop : ∀ μ' H', Keep μ H μ' H' → Sat K μ' H' → stay μ' → J.stop ds.length H'
def IV (X : Cx) (tg it : Expr) (δ : DS) (μ : Mem) (ds : List D) (stay : Mem → Prop) (μ1 : Mem) : Prop :=
  ∀ σ H R, SR X.K μ H σ δ → Sat X.K μ H → (∀ J H1, Keep μ H μ1 H1 → Sat X.K μ1 H1 → Yields X.K J μ1 H1 ds stay → R J H1) → WI X tg it σ H R
/-- .. where what is walked is not known ahead -/
def IV0 (X : Cx) (tg it : Expr) (δ : DS) (μ : Mem) (k : List D → (Mem → Prop) → Mem → Prop) : Prop :=
  ∀ σ H R, SR X.K μ H σ δ → Sat X.K μ H → (∀ ds stay μ1 J H1, k ds stay μ1 → Keep μ H μ1 H1 → Sat X.K μ1 H1 → Yields X.K J μ1 H1 ds stay → R J H1) → WI X tg it σ H R
section
variable {X : Cx} {δ : DS} {μ μ1 : Mem} {tg it e : Expr} {ds : List D} {pos : Pos}
theorem yl_tup {K : PySem.W.Frag} {a : Addr} {vs : List V} {H : Hp} (h : H a = some (.tup vs)) (m : μ a = none) (r : Reps K μ H vs ds) : Yields K (Itt K a) μ H ds fun _ => True where
  go := fun i μ' H' hi kp sa _ => ⟨vs, vs[i]'(by rw [r.length]; exact hi), SqT.of (kp _ _ h m).1, by simp⟩
  yld := fun i μ' H' x H'' hi kp sa _ ⟨e1, e2⟩ => by
    have e3 := e2 vs (SqT.of (kp _ _ h m).1)
    obtain ⟨d, h1, h2⟩ := (r.keep kp).getV e3
    exact ⟨e1, d, h1, h2⟩
  stop := fun μ' H' kp sa _ => ⟨vs, SqT.of (kp _ _ h m).1, by rw [r.length]; exact Nat.le_refl _⟩
theorem yl_lst {K : PySem.W.Frag} {a : Addr} {vs : List V} {H : Hp} (h : H a = some (.lst vs)) (m : μ a = none) (r : Reps K μ H vs ds) : Yields K (Itl K a) μ H ds fun _ => True where
  go := fun i μ' H' hi kp sa _ => ⟨vs, vs[i]'(by rw [r.length]; exact hi), SqL.of (kp _ _ h m).1, by simp⟩
  yld := fun i μ' H' x H'' hi kp sa _ ⟨e1, e2⟩ => by
    have e3 := e2 vs (SqL.of (kp _ _ h m).1)
    obtain ⟨d, h1, h2⟩ := (r.keep kp).getV e3
    exact ⟨e1, d, h1, h2⟩
  stop := fun μ' H' kp sa _ => ⟨vs, SqL.of (kp _ _ h m).1, by rw [r.length]; exact Nat.le_refl _⟩
theorem yl_mem {K : PySem.W.Frag} {a : Addr} {H : Hp} : Yields K (Itl K a) μ H ds fun μ' => μ' a = some (.lst ds) where
  go := fun i μ' H' hi kp sa st => by
    obtain ⟨vs, h1, r⟩ := sa a _ st
    exact ⟨vs, vs[i]'(by rw [r.length]; exact hi), SqL.of h1, by simp⟩
  yld := fun i μ' H' x H'' hi kp sa st ⟨e1, e2⟩ => by
    obtain ⟨vs, h1, r⟩ := sa a _ st
    have e3 := e2 vs (SqL.of h1)
    obtain ⟨d, h1, h2⟩ := r.getV e3
    exact ⟨e1, d, h1, h2⟩
  stop := fun μ' H' kp sa st => by
    obtain ⟨vs, h1, r⟩ := sa a _ st
    exact ⟨vs, SqL.of h1, by rw [r.length]; exact Nat.le_refl _⟩
def rgD (n : Nat) : List D := (List.range n).map fun i => .int (i : Nat)
@[simp] theorem rgD_len (n : Nat) : (rgD n).length = n := by simp [rgD]
theorem rgD_get {n i : Nat} (h : i < n) : (rgD n)[i]? = some (.int (i : Nat)) := by simp [rgD, h]
theorem yl_rng {K : PySem.W.Frag} {n : Nat} {H : Hp} : Yields K (Itr 0 n) μ H (rgD n) fun _ => True where
  go := fun i μ' H' hi kp sa _ => by rw [rgD_len] at hi; exact hi
  yld := fun i μ' H' x H'' hi kp sa _ ⟨e1, e2⟩ => by
    rw [rgD_len] at hi
    subst e2
    exact ⟨e1, _, rgD_get hi, by rw [Int.zero_add]; exact .int _⟩
  stop := fun μ' H' kp sa _ => by
    show n ≤ (rgD n).length
    rw [rgD_len]
    exact Nat.le_refl _
theorem iv_range {n : Int} {p : Pos} (hm : X.mg "range" = none) (ha : EV X e δ μ (Is (.int n) μ1)) (hn : n < 2 ^ 62) (hn0 : -(2 ^ 62) ≤ n) (hg : Gl X "range" := by rfl) (hs : starEach [e] X.env = [(false, eval e X.env)] := by rfl) :
    IV X tg (.Call (.Name "range" p) [e] [] pos) δ μ (rgD n.toNat) (fun _ => True) μ1 := fun σ H R sr sa q => by
  refine ⟨_, pi_range1 hg hm (pa_cons (pe_we e) pa_nil hs) hs, ha σ H _ sr sa fun v d μ' H1 ⟨e1, e2⟩ kp1 sa1 r1 => ?_⟩
  subst e1 e2
  exact ⟨n, by rw [r1.int_eq], hn0, hn, q _ H1 kp1 sa1 yl_rng⟩
theorem iv_tup (ha : EV X e δ μ (Is (.tup ds) μ1)) : IV X tg e δ μ ds (fun _ => True) μ1 := fun σ H R sr sa q => by
  refine ⟨_, pi_tup (pe_we e), ha σ H _ sr sa fun v d μ' H1 ⟨e1, e2⟩ kp1 sa1 r1 => ?_⟩
  subst e1 e2
  obtain ⟨p, vs, rfl, hp, mp, r⟩ := r1.tup_at
  exact ⟨p, rfl, ⟨vs, SqT.of hp⟩, q _ H1 kp1 sa1 (yl_tup hp mp r)⟩
theorem iv_lst (ha : EV X e δ μ (Is (.lst ds) μ1)) : IV X tg e δ μ ds (fun _ => True) μ1 := fun σ H R sr sa q => by
  refine ⟨_, pi_list (pe_we e), ha σ H _ sr sa fun v d μ' H1 ⟨e1, e2⟩ kp1 sa1 r1 => ?_⟩
  subst e1 e2
  obtain ⟨p, vs, rfl, hp, mp, r⟩ := r1.lst_at
  exact ⟨p, rfl, ⟨vs, SqL.of hp⟩, q _ H1 kp1 sa1 (yl_lst hp mp r)⟩
theorem iv_mem {p : Addr} (ha : EV X e δ μ (Is (.ref p) μ1)) (hp : μ1 p = some (.lst ds)) : IV X tg e δ μ ds (fun μ' => μ' p = some (.lst ds)) μ1 := fun σ H R sr sa q => by
  refine ⟨_, pi_list (pe_we e), ha σ H _ sr sa fun v d μ' H1 ⟨e1, e2⟩ kp1 sa1 r1 => ?_⟩
  subst e1 e2
  obtain ⟨vs, h1, r⟩ := sa1 p _ hp
  exact ⟨p, r1.ref_eq, ⟨vs, SqL.of h1⟩, q _ H1 kp1 sa1 yl_mem⟩
theorem IV.zero {stay : Mem → Prop} {k : List D → (Mem → Prop) → Mem → Prop} (h : IV X tg it δ μ ds stay μ1) (hk : k ds stay μ1) : IV0 X tg it δ μ k := fun σ H R sr sa q => h σ H R sr sa fun J H1 kp sa1 y => q ds stay μ1 J H1 hk kp sa1 y
/-- a list that stands still, not known ahead -/
theorem iv_lst0 {k : List D → (Mem → Prop) → Mem → Prop} (ha : EV X e δ μ fun d μ1 => ∃ ds, d = .lst ds ∧ k ds (fun _ => True) μ1) : IV0 X tg e δ μ k := fun σ H R sr sa q => by
  refine ⟨_, pi_list (pe_we e), ha σ H _ sr sa fun v d μ' H1 ⟨ds, e1, hk⟩ kp1 sa1 r1 => ?_⟩
  subst e1
  obtain ⟨p, vs, rfl, hp, mp, r⟩ := r1.lst_at
  exact ⟨p, rfl, ⟨vs, SqL.of hp⟩, q ds _ _ _ H1 hk kp1 sa1 (yl_lst hp mp r)⟩
end
end DL
set_option Elab.async false
set_option linter.all false
set_option maxRecDepth 100000
set_option maxHeartbeats 1000000
/-! Data layer, part 5: for, while, comprehensions. -/
namespace DL
open PySem PySem.Spec PyProof.Rows L2
section
variable {X : Cx} {δ : DS} {μ μ1 : Mem} {k : DE} {tg it : Expr} {body : List Stmt} {pos : Pos}
/-- for, what is walked told behind its evaluation -/
theorem s1_for0 (hp : PassesOwn (model X.prog X.w) X.A X.env X.xe) (hc : X.calm = true)
    (h : IV0 X tg it δ μ fun ds stay μ1 => ∃ I : Nat → DS → Mem → Prop, I 0 δ μ1 ∧ (∀ i δ' μ', I i δ' μ' → stay μ') ∧
      (∀ i d δ' μ', ds[i]? = some d → I i δ' μ' → GV X tg d δ' μ' fun δ2 μ2 => SV X body δ2 μ2 { nx := I (i + 1), rt := k.rt, bk := k.nx, ct := I (i + 1) }) ∧ (∀ δ' μ', I ds.length δ' μ' → k.nx δ' μ'))
    (hs : ∀ x, foldedSetIterable it X.env x = pure x := by intro _; rfl) : S1 X (.For tg it body [] pos) δ μ k := fun σ H E sr sa q => by
  refine ⟨_, ps_for hp hc (pi_wi tg it) (pg_wg tg) (pss_wss body) hs, h σ H _ sr sa fun ds stay μ1 J H1 hk kp1 sa1 y => ?_⟩
  obtain ⟨I, h0, hst, hstep, hend⟩ := hk
  refine ⟨fun i m σ' H' => m = ds.length - i ∧ i ≤ ds.length ∧ ∃ δ' μ', I i δ' μ' ∧ Keep μ1 H1 μ' H' ∧ Sat X.K μ' H' ∧ SR X.K μ' H' σ' δ', ⟨ds.length, by simp, Nat.zero_le _, δ, μ1, h0, Keep.refl, sa1, sr.keep kp1⟩, ?_⟩
  rintro i m σ' H' ⟨rfl, hi, δ', μ', hI, kp, sa', sr'⟩
  by_cases hlt : i < ds.length
  · refine .inr ⟨y.go i μ' H' hlt kp sa' (hst i δ' μ' hI), fun σ2 H2 => ∃ δ2 μ2, I (i + 1) δ2 μ2 ∧ Keep μ1 H1 μ2 H2 ∧ Sat X.K μ2 H2 ∧ SR X.K μ2 H2 σ2 δ2, fun σ2 H2 hN => ⟨ds.length - (i + 1), by omega, rfl, hlt, hN⟩, fun x H2 hy => ?_⟩
    obtain ⟨e1, d, hd, r⟩ := y.yld i μ' H' x H2 hlt kp sa' (hst i δ' μ' hI) hy
    subst e1
    refine hstep i d δ' μ' hd hI x σ' H2 _ r sr' sa' fun σ3 δ3 μ3 H3 hb kp3 sa3 sr3 => ?_
    refine hb σ3 H3 _ sr3 sa3 ⟨fun σ4 δ4 μ4 H4 h4 kp4 sa4 sr4 => ⟨δ4, μ4, h4, (kp.trans kp3).trans kp4, sa4, sr4⟩, q.rt.keep ((kp1.trans kp).trans kp3), q.nx.keep ((kp1.trans kp).trans kp3), fun σ4 δ4 μ4 H4 h4 kp4 sa4 sr4 => ⟨δ4, μ4, h4, (kp.trans kp3).trans kp4, sa4, sr4⟩⟩
  · have e : i = ds.length := by omega
    subst e
    exact .inl ⟨y.stop μ' H' kp sa' (hst _ δ' μ' hI), q.nx σ' δ' μ' H' (hend δ' μ' hI) (kp1.trans kp) sa' sr'⟩
theorem s1_for {ds : List D} {stay : Mem → Prop} (hp : PassesOwn (model X.prog X.w) X.A X.env X.xe) (hc : X.calm = true) (hi : IV X tg it δ μ ds stay μ1) (I : Nat → DS → Mem → Prop) (h0 : I 0 δ μ1) (hst : ∀ i δ' μ', I i δ' μ' → stay μ')
    (hstep : ∀ i d δ' μ', ds[i]? = some d → I i δ' μ' → GV X tg d δ' μ' fun δ2 μ2 => SV X body δ2 μ2 { nx := I (i + 1), rt := k.rt, bk := k.nx, ct := I (i + 1) }) (hend : ∀ δ' μ', I ds.length δ' μ' → k.nx δ' μ')
    (hs : ∀ x, foldedSetIterable it X.env x = pure x := by intro _; rfl) : S1 X (.For tg it body [] pos) δ μ k := s1_for0 hp hc (hi.zero ⟨I, h0, hst, hstep, hend⟩) hs
/-- for j in range(n) -/
theorem s1_forR (j : Nat) {n : Int} {x : Str} {px : Pos} (hp : PassesOwn (model X.prog X.w) X.A X.env X.xe) (hc : X.calm = true) (hN : X.N.Nodup) (hi : IV X (.Name x px) it δ μ (rgD n.toNat) (fun _ => True) μ1) (I : Nat → DS → Mem → Prop) (h0 : I 0 δ μ1)
    (hstep : ∀ (i : Nat) δ' μ', (i : Int) < n → I i δ' μ' → SV X body (δ'.set j (some (.int (i : Nat)))) μ' { nx := I (i + 1), rt := k.rt, bk := k.nx, ct := I (i + 1) }) (hend : ∀ δ' μ', I n.toNat δ' μ' → k.nx δ' μ')
    (hs : ∀ x, foldedSetIterable it X.env x = pure x := by intro _; rfl) (hj : X.N[j]? = some x := by rfl) (hx : Loc X.env.scope x := by first | exact .inl rfl | exact .inr rfl) (hf : X.fn x = true ∨ X.env.scope.names.lookup x = some .local := by first | exact .inl rfl | exact .inr rfl) : S1 X (.For (.Name x px) it body [] pos) δ μ k :=
  s1_for hp hc hi I h0 (fun _ _ _ _ => trivial) (fun i d δ' μ' hd hI => by
    have hlt : i < n.toNat := by
      have := (List.getElem?_eq_some_iff.mp hd).1
      rwa [rgD_len] at this
    rw [rgD_get hlt] at hd
    cases hd
    exact gv_name j hN (hstep i δ' μ' (by omega) hI) hj hx hf) (fun δ' μ' hI => hend δ' μ' (by rw [rgD_len] at hI; exact hI)) hs
theorem s1_while {c : Expr} (hp : PassesOwn (model X.prog X.w) X.A X.env X.xe) (I : DS → Mem → Prop) (ms : DS → Mem → Nat) (h0 : I δ μ)
    (hs : ∀ δ' μ', I δ' μ' → TV X c δ' μ' fun t μ2 => (t = true → SV X body δ' μ2 { nx := fun δ3 μ3 => I δ3 μ3 ∧ ms δ3 μ3 < ms δ' μ', rt := k.rt, bk := k.nx, ct := fun δ3 μ3 => I δ3 μ3 ∧ ms δ3 μ3 < ms δ' μ' }) ∧ (t = false → k.nx δ' μ2)) : S1 X (.While c body [] pos) δ μ k := fun σ H E sr sa q => by
  refine ⟨_, ps_while hp (pt_wt c) (pss_wss body), fun m σ' H' => ∃ δ' μ', m = ms δ' μ' ∧ I δ' μ' ∧ Keep μ H μ' H' ∧ Sat X.K μ' H' ∧ SR X.K μ' H' σ' δ', ⟨_, δ, μ, rfl, h0, Keep.refl, sa, sr⟩, ?_⟩
  rintro m σ' H' ⟨δ', μ', rfl, hI, kp, sa', sr'⟩
  refine hs δ' μ' hI σ' H' _ sr' sa' fun t μ2 H2 hk kp2 sa2 => ?_
  cases t with
  | true =>
    rw [if_pos rfl]
    refine ⟨fun σ3 H3 => ∃ δ3 μ3, ms δ3 μ3 < ms δ' μ' ∧ I δ3 μ3 ∧ Keep μ H μ3 H3 ∧ Sat X.K μ3 H3 ∧ SR X.K μ3 H3 σ3 δ3, fun σ3 H3 ⟨δ3, μ3, a1, a2, a3⟩ => ⟨_, a1, δ3, μ3, rfl, a2, a3⟩, ?_⟩
    exact hk.1 rfl σ' H2 _ (sr'.keep kp2) sa2 ⟨fun σ4 δ4 μ4 H4 h4 kp4 sa4 sr4 => ⟨δ4, μ4, h4.2, h4.1, (kp.trans kp2).trans kp4, sa4, sr4⟩, q.rt.keep (kp.trans kp2), q.nx.keep (kp.trans kp2), fun σ4 δ4 μ4 H4 h4 kp4 sa4 sr4 => ⟨δ4, μ4, h4.2, h4.1, (kp.trans kp2).trans kp4, sa4, sr4⟩⟩
  | false =>
    rw [if_neg Bool.false_ne_true]
    exact q.nx σ' δ' μ2 H2 (hk.2 rfl) (kp.trans kp2) sa2 (sr'.keep kp2)
end

/-! ### comprehensions -/
theorem wipe_set {v : Option V} {j : Nat} {τ : St} : ∀ {vs : List Nat}, j ∈ vs → wipe (τ.set j v) vs = wipe τ vs
  | [], h => by simp at h
  | a :: vs, h => by
    show (wipe (τ.set j v) vs).set a none = (wipe τ vs).set a none
    by_cases hj : j ∈ vs
    · rw [wipe_set hj]
    · have e : j = a := by
        rcases List.mem_cons.mp h with h | h
        · exact h
        · exact absurd h hj
      subst e
      have aux : ∀ {us : List Nat}, j ∉ us → wipe (τ.set j v) us = (wipe τ us).set j v := by
        intro us
        induction us with
        | nil => intro _; rfl
        | cons b us ih =>
          intro hb
          have h1 : j ≠ b := fun e => hb (by rw [e]; exact List.mem_cons_self ..)
          have h2 : j ∉ us := fun e => hb (List.mem_cons_of_mem _ e)
          show (wipe (τ.set j v) us).set b none = ((wipe τ us).set b none).set j v
          rw [ih h2, List.set_comm _ _ h1]
      rw [aux hj, List.set_set]
theorem wipe_wipe {τ : St} : ∀ {vs us : List Nat}, (∀ x ∈ us, x ∈ vs) → wipe (wipe τ us) vs = wipe τ vs
  | vs, [], _ => rfl
  | vs, a :: us, h => by
    show wipe ((wipe τ us).set a none) vs = wipe τ vs
    rw [wipe_set (h a (List.mem_cons_self ..)), wipe_wipe fun x hx => h x (List.mem_cons_of_mem _ hx)]
theorem wipe_back {τ : St} {vs : List Nat} {j : Nat} {v : Option V} (h : j ∈ vs) : wipe ((wipe τ vs).set j v) vs = wipe τ vs := by
  rw [wipe_set h, wipe_wipe fun _ hx => hx]
def TsV (X : Cx) (ifs : List Expr) (δ : DS) (μ : Mem) (k : Bool → Mem → Prop) : Prop := ∀ σ H Q, SR X.K μ H σ δ → Sat X.K μ H → TK X.K μ H k Q → WTs X ifs σ H Q
theorem ts_nil {X : Cx} {δ : DS} {μ : Mem} {k : Bool → Mem → Prop} (h : k true μ) : TsV X [] δ μ k := fun σ H Q sr sa q => ⟨_, pts_nil, q true μ H h Keep.refl sa⟩
theorem ts_one {X : Cx} {δ : DS} {μ : Mem} {k : Bool → Mem → Prop} {c : Expr} (h : TV X c δ μ k) : TsV X [c] δ μ k := fun σ H Q sr sa q => ⟨_, pts_one (pt_wt c), h σ H Q sr sa q⟩
section
variable {X : Cx} {δ : DS} {μ μ1 : Mem} {elt it : Expr} {ifs : List Expr} {scope : Scope} {own : List (Str × Nat)} {pos px : Pos} {x : Str}
/-- what a comprehension asks: k of the new list, an object of the memory; I: place, what is made so far, memory (the new list at p in it) -/
def LC (X : Cx) (own : List (Str × Nat)) (j : Nat) (x : Str) (px : Pos) (elt it : Expr) (ifs : List Expr) (scope : Scope) (δ : DS) (μ : Mem) (k : D → Mem → Prop) : Prop :=
  IV0 X (.Name x px) it δ μ fun ds stay μ1 => ds.length ≤ 100000 ∧ ∀ p, μ1 p = none → ∃ I : Nat → List D → Mem → Prop, I 0 [] (μ1.put p (.lst [])) ∧ (∀ i acc μ', I i acc μ' → stay μ' ∧ μ' p = some (.lst acc)) ∧
    (∀ i d acc μ' s H C cl fp, ds[i]? = some d → I i acc μ' → TsV (X.blk s H scope (compEnvC scope cl C X.env) fp) ifs ((wipeD δ (own.map (·.2))).set j (some d)) μ' fun b μ2 =>
      (b = true → ∀ s H C cl fp, EV (X.blk s H scope (compEnvC scope cl C X.env) fp) elt ((wipeD δ (own.map (·.2))).set j (some d)) μ2 fun y μ3 => μ3 p = some (.lst acc) ∧ I (i + 1) (acc ++ [y]) (μ3.put p (.lst (acc ++ [y])))) ∧ (b = false → I (i + 1) acc μ2)) ∧
    (∀ acc μ', I ds.length acc μ' → k (.ref p) μ')
/-- the term of rules and its reading -/
theorem lc_run {k : D → Mem → Prop} (j : Nat) (h : LC X own j x px elt it ifs scope δ μ k) (hj : j ∈ own.map (·.2)) {σ : St} {H : Hp} {Q : L2.VK} (sr : SR X.K μ H σ δ) (sa : Sat X.K μ H) (q : VK X.K μ H k Q) :
    tLc (WI X (.Name x px) it) (gName j) (fun σ H Q => ∀ s H0 C cl fp, WTs (X.blk s H0 scope (compEnvC scope cl C X.env) fp) ifs σ H Q) (fun σ H Q => ∀ s H0 C cl fp, WE (X.blk s H0 scope (compEnvC scope cl C X.env) fp) elt σ H Q) (own.map (·.2)) σ H Q := by
  refine h σ H _ sr sa fun ds stay μ1 J H1 ⟨hlen, hk⟩ kp1 sa1 y => fun p np => ?_
  obtain ⟨I, h0, hst, hstep, hend⟩ := hk p (sa1.fresh np)
  have kp0 : Keep μ1 H1 (μ1.put p (.lst [])) (upd H1 p (.lst [])) := Keep.newM np
  refine ⟨fun i m H' => m = ds.length - i ∧ i ≤ ds.length ∧ ∃ acc μ', I i acc μ' ∧ acc.length ≤ i ∧ Keep μ1 H1 μ' H' ∧ Sat X.K μ' H', ⟨ds.length, by simp, Nat.zero_le _, [], _, h0, Nat.le_refl _, kp0, sa1.newM np ⟨[], upd_same, .nil⟩⟩, ?_⟩
  rintro i m H' ⟨rfl, hi, acc, μ', hI, hacc, kp, sa'⟩
  by_cases hlt : i < ds.length
  · refine .inr ⟨y.go i μ' H' hlt kp sa' (hst i acc μ' hI).1, fun H2 => ∃ acc μ', I (i + 1) acc μ' ∧ acc.length ≤ i + 1 ∧ Keep μ1 H1 μ' H2 ∧ Sat X.K μ' H2, fun H2 hN => ⟨ds.length - (i + 1), by omega, rfl, hlt, hN⟩, fun v H2 hy => ?_⟩
    obtain ⟨e1, d, hd, r⟩ := y.yld i μ' H' v H2 hlt kp sa' (hst i acc μ' hI).1 hy
    subst e1
    refine ⟨wipe_back hj, fun s H0 C cl fp => ?_⟩
    have srw : SR X.K μ' H2 ((wipe σ (own.map (·.2))).set j (some v)) ((wipeD δ (own.map (·.2))).set j (some d)) := (((sr.keep kp1).keep kp).wipe (own.map (·.2))).set r j
    refine hstep i d acc μ' s H0 C cl fp hd hI _ H2 _ srw sa' fun b μ2 H3 hb kp3 sa3 => ?_
    cases b with
    | false =>
      rw [if_neg Bool.false_ne_true]
      exact ⟨acc, μ2, hb.2 rfl, by omega, kp.trans kp3, sa3⟩
    | true =>
      rw [if_pos rfl]
      intro s1 H01 C1 cl1 fp1
      refine hb.1 rfl s1 H01 C1 cl1 fp1 _ H3 _ (srw.keep kp3) sa3 ?_
      intro w e μ3 H4 ⟨hp3, hI3⟩ kp4 sa4 r4
      obtain ⟨vs, h1, h2⟩ := sa4 p _ hp3
      refine ⟨vs, h1, by rw [h2.length, sizeLine_eq]; omega, _, _, hI3, by rw [List.length_append, List.length_singleton]; omega, ((kp.trans kp3).trans kp4).trans (Keep.setM hp3), sa4.setM hp3 ⟨_, upd_same, (h2.append (.cons r4 .nil)).keep (Keep.setM hp3)⟩⟩
  · have e : i = ds.length := by omega
    subst e
    exact .inl ⟨y.stop μ' H' kp sa' (hst _ acc μ' hI).1, q _ _ μ' H' (hend acc μ' hI) (kp1.trans kp) sa' (.ref p)⟩
theorem ev_lc (j : Nat) {k : D → Mem → Prop} (h : LC X own j x px elt it ifs scope δ μ k) {Ns ps : List Str} {sc : Scope} (S : FnScope Ns ps sc) (hc : X.calm = true := by rfl) (eN : X.N = Ns := by rfl) (eS : X.env.scope = sc := by rfl) (hok : blkC Ns sc scope own = true := by decide +kernel) (hj : j ∈ own.map (·.2) := by decide)
    (hg : ∀ (s : Shared) (H : Hp) (C : Addr) (cl : List (Str × Addr)) (fp : List Addr), X.N.Nodup → PG (X.blk s H scope (compEnvC scope cl C X.env) fp) (.Name x px) (gName j) := by exact fun _ _ _ _ _ nd => pg_name nd rfl (Or.inl rfl))
    (hs : ∀ x, foldedSetIterable it X.env x = pure x := by intro _; rfl) : EV X (.ListComp elt [⟨.Name x px, it, ifs, 0⟩] scope pos) δ μ k := fun σ H Q sr sa q =>
  ⟨_, pe_lc (own := own) hc (by rw [eN]; exact S.nd) (pi_wi _ it) (blkOk_by (by rw [eN, eS]; exact hok)) (fun s H C cl fp => hg s H C cl fp (by rw [eN]; exact S.nd)) (fun s H C cl fp => ⟨fun pins s' σ H Q I h => (pts_w ifs).run pins s' σ H Q I (h s _ C cl fp)⟩) (fun s H C cl fp => ⟨fun pins s' σ H Q I h => (pe_we elt).run pins s' σ H Q I (h s _ C cl fp)⟩) hs, lc_run j h hj sr sa q⟩
/-- y = [..] on one line -/
theorem s1_setLc (i j : Nat) {y : Str} {py spos : Pos} {kd : DE} (h : LC X own j x px elt it ifs scope δ μ fun d μ1 => kd.nx (δ.set i (some d)) μ1) {Ns ps : List Str} {sc : Scope} (S : FnScope Ns ps sc) (hsw : swapsWith (.ListComp elt [⟨.Name x px, it, ifs, 0⟩] scope pos) (some (.Name y py)) spos.line X.env = pure true) (hc : X.calm = true := by rfl) (eN : X.N = Ns := by rfl) (eS : X.env.scope = sc := by rfl)
    (hy : X.N[i]? = some y := by rfl) (hyl : X.env.scope.names.lookup y = some .local := by rfl) (hok : blkC Ns sc scope own = true := by decide +kernel) (hj : j ∈ own.map (·.2) := by decide)
    (hg : ∀ (s : Shared) (H : Hp) (C : Addr) (cl : List (Str × Addr)) (fp : List Addr), X.N.Nodup → PG (X.blk s H scope (compEnvC scope cl C X.env) fp) (.Name x px) (gName j) := by exact fun _ _ _ _ _ nd => pg_name nd rfl (Or.inl rfl))
    (hs : ∀ x, foldedSetIterable it X.env x = pure x := by intro _; rfl) : S1 X (.Assign [.Name y py] (.ListComp elt [⟨.Name x px, it, ifs, 0⟩] scope pos) spos) δ μ kd := fun σ H E sr sa q =>
  ⟨_, ps_setLc (i := i) (own := own) hc (by rw [eN]; exact S.nd) hy hyl hsw (pi_wi _ it) (blkOk_by (by rw [eN, eS]; exact hok)) (fun s H C cl fp => hg s H C cl fp (by rw [eN]; exact S.nd)) (fun s H C cl fp => ⟨fun pins s' σ H Q I h => (pts_w ifs).run pins s' σ H Q I (h s _ C cl fp)⟩) (fun s H C cl fp => ⟨fun pins s' σ H Q I h => (pe_we elt).run pins s' σ H Q I (h s _ C cl fp)⟩) hs,
    lc_run j h hj sr sa fun v d μ1 H1 hk kp1 sa1 r1 => q.nx _ _ _ _ hk kp1 sa1 ((sr.keep kp1).set r1 i)⟩

/-! ### comprehensions whose elements change nothing -/
/-- the items kept, by place: v of those that the test f keeps -/
def kept (ds : List D) (f : Nat → D → Bool) (v : Nat → D → D) : List D := ((List.range ds.length).zip ds |>.filter fun p => f p.1 p.2).map fun p => v p.1 p.2
def keptN (n : Nat) (ds : List D) (f : Nat → D → Bool) (v : Nat → D → D) : List D := kept (ds.take n) f v
theorem keptN_zero (ds : List D) (f : Nat → D → Bool) (v : Nat → D → D) : keptN 0 ds f v = [] := rfl
theorem zip_take {α : Type} (ds : List α) {i : Nat} {d : α} (h : ds[i]? = some d) : (List.range (ds.take (i + 1)).length).zip (ds.take (i + 1)) = (List.range (ds.take i).length).zip (ds.take i) ++ [(i, d)] := by
  have hl : i < ds.length := (List.getElem?_eq_some_iff.mp h).1
  have e1 : (ds.take (i + 1)).length = i + 1 := by rw [List.length_take]; omega
  have e2 : (ds.take i).length = i := by rw [List.length_take]; omega
  rw [e1, e2, List.take_add_one, h, List.range_succ, List.zip_append (by rw [List.length_range, e2])]
  rfl
theorem keptN_yes {ds : List D} {f : Nat → D → Bool} {v : Nat → D → D} {i : Nat} {d : D} (h : ds[i]? = some d) (hf : f i d = true) : keptN (i + 1) ds f v = keptN i ds f v ++ [v i d] := by
  unfold keptN kept
  rw [zip_take ds h, List.filter_append, List.map_append, List.filter_cons_of_pos (by exact hf)]
  rfl
theorem keptN_no {ds : List D} {f : Nat → D → Bool} {v : Nat → D → D} {i : Nat} {d : D} (h : ds[i]? = some d) (hf : f i d = false) : keptN (i + 1) ds f v = keptN i ds f v := by
  unfold keptN kept
  rw [zip_take ds h, List.filter_append, List.map_append, List.filter_cons_of_neg (by rw [hf]; exact Bool.false_ne_true)]
  simp
theorem keptN_all (ds : List D) (f : Nat → D → Bool) (v : Nat → D → D) : keptN ds.length ds f v = kept ds f v := by unfold keptN; rw [List.take_length]
theorem kept_true (ds : List D) (v : Nat → D → D) : kept ds (fun _ _ => true) v = (List.range ds.length).zipWith v ds := by
  unfold kept
  rw [List.filter_eq_self.mpr (fun _ _ => rfl)]
  unfold List.zip
  rw [List.map_zipWith]
/-- what stands still: any memory over μ1 -/
theorem lc_pure {k : D → Mem → Prop} {ds : List D} {stay : Mem → Prop} (j : Nat) (hi : IV X (.Name x px) it δ μ ds stay μ1) (hlen : ds.length ≤ 100000) (f : Nat → D → Bool) (v : Nat → D → D) (hst : ∀ μ', Sub μ1 μ' → stay μ')
    (ht : ∀ i d μ' s H C cl fp, ds[i]? = some d → Sub μ1 μ' → TsV (X.blk s H scope (compEnvC scope cl C X.env) fp) ifs ((wipeD δ (own.map (·.2))).set j (some d)) μ' (IsB (f i d) μ'))
    (he : ∀ i d μ' s H C cl fp, ds[i]? = some d → Sub μ1 μ' → f i d = true → EV (X.blk s H scope (compEnvC scope cl C X.env) fp) elt ((wipeD δ (own.map (·.2))).set j (some d)) μ' (Is (v i d) μ'))
    (hk : NewL μ1 (kept ds f v) k) (hfz : ∀ d μ', k d μ' → True := by intros; trivial) : LC X own j x px elt it ifs scope δ μ fun d μ' => ∃ p, d = .ref p ∧ μ1 p = none ∧ μ' = μ1.put p (.lst (kept ds f v)) := fun σ H R sr sa q =>
  hi σ H R sr sa fun J H1 kp1 sa1 y => q ds stay μ1 J H1 ⟨hlen, fun p np => ⟨fun i acc μ' => μ' = μ1.put p (.lst acc) ∧ acc = keptN i ds f v, ⟨rfl, keptN_zero ds f v⟩,
    fun i acc μ' ⟨e1, e2⟩ => ⟨hst _ (by rw [e1]; exact sub_put np), by rw [e1, Mem.put_same]⟩,
    fun i d acc μ' s H C cl fp hd ⟨e1, e2⟩ => by
      subst e1
      intro σ2 H2 Q2 sr2 sa2 q2
      refine ht i d _ s H C cl fp hd (sub_put np) σ2 H2 Q2 sr2 sa2 fun b μ2 H3 ⟨hb1, hb2⟩ kp sa3 => q2 b μ2 H3 ⟨fun hb s H C cl fp => ?_, fun hb => ?_⟩ kp sa3
      · subst hb1 hb2
        refine (he i d _ s H C cl fp hd (sub_put np) hb).mono fun y μ3 ⟨e3, e4⟩ => ?_
        subst e3 e4
        exact ⟨Mem.put_same, Mem.put_put, by rw [e2, keptN_yes hd hb]⟩
      · subst hb1 hb2
        exact ⟨rfl, by rw [e2, keptN_no hd hb]⟩,
    fun acc μ' ⟨e1, e2⟩ => ⟨p, rfl, np, by rw [e1, e2, keptN_all]⟩⟩⟩ kp1 sa1 y
/-- the new list stands still, or it is of the memory -/
theorem lc_new {k : D → Mem → Prop} {acc : List D} {e : Expr} (h : EV X e δ μ fun d μ' => ∃ p, d = .ref p ∧ μ1 p = none ∧ μ' = μ1.put p (.lst acc)) (hk : NewL μ1 acc k) : EV X e δ μ k := by
  rcases hk with hk | hk
  · refine ev_freeze (h.mono fun d μ' ⟨p, e1, e2, e3⟩ => ⟨p, acc, μ1, e1, by rw [e3, Mem.put_same], by rw [e3]; exact sub_put e2, e2, hk⟩)
  · exact h.mono fun d μ' ⟨p, e1, e2, e3⟩ => by
      rw [e1, e3]
      exact hk p e2
/-- [elt for x in it if ..], nothing changed on the way: the list of the v of the items kept -/
theorem ev_lcP (j : Nat) {k : D → Mem → Prop} {ds : List D} {stay : Mem → Prop} (hi : IV X (.Name x px) it δ μ ds stay μ1) (hlen : ds.length ≤ 100000) (f : Nat → D → Bool) (v : Nat → D → D) (hst : ∀ μ', Sub μ1 μ' → stay μ')
    (ht : ∀ i d μ' s H C cl fp, ds[i]? = some d → Sub μ1 μ' → TsV (X.blk s H scope (compEnvC scope cl C X.env) fp) ifs ((wipeD δ (own.map (·.2))).set j (some d)) μ' (IsB (f i d) μ'))
    (he : ∀ i d μ' s H C cl fp, ds[i]? = some d → Sub μ1 μ' → f i d = true → EV (X.blk s H scope (compEnvC scope cl C X.env) fp) elt ((wipeD δ (own.map (·.2))).set j (some d)) μ' (Is (v i d) μ'))
    (hk : NewL μ1 (kept ds f v) k) {Ns ps : List Str} {sc : Scope} (S : FnScope Ns ps sc) (hc : X.calm = true := by rfl) (eN : X.N = Ns := by rfl) (eS : X.env.scope = sc := by rfl) (hok : blkC Ns sc scope own = true := by decide +kernel) (hj : j ∈ own.map (·.2) := by decide)
    (hg : ∀ (s : Shared) (H : Hp) (C : Addr) (cl : List (Str × Addr)) (fp : List Addr), X.N.Nodup → PG (X.blk s H scope (compEnvC scope cl C X.env) fp) (.Name x px) (gName j) := by exact fun _ _ _ _ _ nd => pg_name nd rfl (Or.inl rfl))
    (hs : ∀ x, foldedSetIterable it X.env x = pure x := by intro _; rfl) : EV X (.ListComp elt [⟨.Name x px, it, ifs, 0⟩] scope pos) δ μ k :=
  lc_new (ev_lc j (lc_pure j hi hlen f v hst ht he hk) S hc eN eS hok hj hg hs) hk
end
end DL
set_option Elab.async false
set_option linter.all false
set_option maxRecDepth 100000
set_option maxHeartbeats 4000000
/-! Data layer, part 6: rules that the hand layer lacks: tuple * 0, tuple * 1, any of a tuple of ints, d != {}; and some more over data. -/
namespace DL
open PySem PySem.Spec PyProof.Rows L2
/-! ### tuple * k -/
theorem tuple_mul1 (l : Addr) (items : Array Value) (n : Nat) (dd : Option Addr) (sl : Array (Option Value)) (x : Int) (u : Tok) (c0 : (decide (x < -(2 ^ 63)) || decide (x ≥ 2 ^ 63)) = false) (c1 : (items.isEmpty || x == 1) = true) :
    Meets (Builtin.«tuple.__mul__» ⟨[.ref l, .int x u], []⟩) (fun _ R s => s.heap.get? l = some { cls := .type "tuple", dict := dd, data := .seq items n, slots := sl } ∧ R (.ok (.ret (Value.ref l))) { s with heap := s.heap, toks := s.toks }) :=
  .of_wp fun prog w A R s h => by
    obtain ⟨hp, g, d, tk, os⟩ := s
    obtain ⟨hl, h⟩ := h
    have f1 := AutoSeq1.idx_int
    wp_walk using wpAny_loadPart' hl
    repeat (first
      | (refine wpAny_ite_false (decide_eq_false (by rw [c0]; exact Bool.false_ne_true)) ?_; wp_walk using wpAny_loadPart' hl)
      | (refine wpAny_ite_true (decide_eq_true (by rw [c1])) ?_; wp_walk using wpAny_loadPart' hl))
    exact ⟨_, rfl, h⟩
theorem tuple_mul0 (l : Addr) (items : Array Value) (n : Nat) (dd : Option Addr) (sl : Array (Option Value)) (x : Int) (u : Tok) (c0 : (decide (x < -(2 ^ 63)) || decide (x ≥ 2 ^ 63)) = false) (c1 : (items.isEmpty || x == 1) = false) (c2 : (decide (x ≤ 0) || items.isEmpty) = true) :
    Meets (Builtin.«tuple.__mul__» ⟨[.ref l, .int x u], []⟩) (fun _ R s => s.heap.get? l = some { cls := .type "tuple", dict := dd, data := .seq items n, slots := sl } ∧
      R (.ok (.ret (Value.ref s.heap.objs.size))) { s with heap := s.heap.push { cls := Value.type "tuple", data := Data.seq #[] }, toks := s.toks }) :=
  .of_wp fun prog w A R s h => by
    obtain ⟨hp, g, d, tk, os⟩ := s
    obtain ⟨hl, h⟩ := h
    have f1 := AutoSeq1.idx_int
    wp_walk using wpAny_loadPart' hl
    repeat (first
      | (refine wpAny_ite_false (decide_eq_false (by rw [c0]; exact Bool.false_ne_true)) ?_; wp_walk using wpAny_loadPart' hl)
      | (refine wpAny_ite_false (decide_eq_false (by rw [c1]; exact Bool.false_ne_true)) ?_; wp_walk using wpAny_loadPart' hl)
      | (refine wpAny_ite_true (decide_eq_true (by rw [c2])) ?_; wp_walk using wpAny_loadPart' hl))
    exact ⟨_, rfl, h⟩
def rRepT1 (K : PySem.W.Frag) : R2 := fun x y H Q => ∃ l xs, x = .ref l ∧ y = .int 1 ∧ SqT K H l xs ∧ Q (.ref l) H
def rRepT0 (K : PySem.W.Frag) : R2 := fun x y H Q => ∃ l xs, x = .ref l ∧ y = .int 0 ∧ SqT K H l xs ∧ xs ≠ [] ∧ ∀ p, H p = none → Q (.ref p) (upd H p (.tup []))
section
variable {X : Cx}
theorem op_repT1 : OpR X (binaryOp .Mult) (rRepT1 X.K) := by
  intro pins s σ H x y v u Q I rx ry h
  obtain ⟨l, xs, rfl, rfl, hT, q⟩ := h
  cases rx
  obtain ⟨t, rfl⟩ := ry
  obtain ⟨its, r, ⟨⟨cls, dd, data, sl⟩, ho, hc, n, hd⟩, hs⟩ := I.tuple hT
  simp only at hc hd
  subst hc hd
  have c0 : (decide ((1 : Int) < -(2 ^ 63)) || decide ((1 : Int) ≥ 2 ^ 63)) = false := by decide
  have c1 : (its.toArray.isEmpty || (1 : Int) == 1) = true := by simp
  exact wpAny_binaryOp_repeat_ref (T := "tuple") (U := "int") (by decide) ⟨_, ho, rfl⟩ (fun s' => typeIs_int s' 1 t) noFill_tuple_mul F.fills_int_mul F.slot_int_rmul repeat_tuple F.slot_int_index.lookup
    (call_meets F.slot_int_rmul (typeIs_int s 1 t) F.entry_int_rmul (F.args_int_rmul_2 _ _) (int_rmul_tuple 1 t l its.toArray n dd sl)
      ⟨ho, rfl, ⟨_, ho, rfl⟩, call_meets F.slot_tuple_mul ⟨_, ho, rfl⟩ F.entry_tuple_mul (F.args_tuple_mul_2 _ _) (tuple_mul1 l its.toArray n dd sl 1 t c0 c1) ⟨ho, ⟨.ref l, H, I.tok _, rfl, q⟩⟩⟩)
theorem op_repT0 : OpR X (binaryOp .Mult) (rRepT0 X.K) := by
  intro pins s σ H x y v u Q I rx ry h
  obtain ⟨l, xs, rfl, rfl, hT, hne, q⟩ := h
  cases rx
  obtain ⟨t, rfl⟩ := ry
  obtain ⟨its, r, ⟨⟨cls, dd, data, sl⟩, ho, hc, n, hd⟩, hs⟩ := I.tuple hT
  simp only at hc hd
  subst hc hd
  have hn : its ≠ [] := fun e => hne (by
    have hle : its.length = xs.length := r.length.symm
    rw [e] at hle
    exact List.eq_nil_of_length_eq_zero hle.symm)
  have hi : its.toArray.isEmpty = false := by
    cases its with
    | nil => exact absurd rfl hn
    | cons a b => rfl
  have c0 : (decide ((0 : Int) < -(2 ^ 63)) || decide ((0 : Int) ≥ 2 ^ 63)) = false := by decide
  have c1 : (its.toArray.isEmpty || (0 : Int) == 1) = false := by rw [hi]; rfl
  have c2 : (decide ((0 : Int) ≤ 0) || its.toArray.isEmpty) = true := by simp
  refine wpAny_binaryOp_repeat_ref (T := "tuple") (U := "int") (by decide) ⟨_, ho, rfl⟩ (fun s' => typeIs_int s' 0 t) noFill_tuple_mul F.fills_int_mul F.slot_int_rmul repeat_tuple F.slot_int_index.lookup
    (call_meets F.slot_int_rmul (typeIs_int s 0 t) F.entry_int_rmul (F.args_int_rmul_2 _ _) (int_rmul_tuple 0 t l its.toArray n dd sl)
      ⟨ho, rfl, ⟨_, ho, rfl⟩, call_meets F.slot_tuple_mul ⟨_, ho, rfl⟩ F.entry_tuple_mul (F.args_tuple_mul_2 _ _) (tuple_mul0 l its.toArray n dd sl 0 t c0 c1 c2) ⟨ho, ?_⟩⟩)
  refine ⟨.ref s.heap.objs.size, _, I.laid (t' := s.toks) (o := .tup []) (fun b ob q => Heap.get?_push_of_some _ q) (Nat.le_refl _) ?_, rfl, q _ (I.hok.fresh (Nat.le_refl _))⟩
  exact ⟨Nat.zero_le _, _, .nil, IsTup.new _ _⟩
end
section
variable {X : Cx} {K : PySem.W.Frag} {μ : Mem} {k : D → Mem → Prop} {ds : List D} {i : Int}
theorem rd_repT (hK : X.K = K) (hn : ds ≠ []) (hz : ds.length ≤ 100) (h0 : 0 ≤ i) (h1 : i ≤ 1000) (h : k (.tup (List.replicate i.toNat ds).flatten) μ) : RD K (WO X (binaryOp .Mult)) (.tup ds) (.int i) μ k := by
  subst hK
  intro v u H Q a b c q
  obtain ⟨p, vs, rfl, hp, mp, r⟩ := a.tup_at
  have hv : vs ≠ [] := fun e => hn (by
    subst e
    exact List.eq_nil_of_length_eq_zero r.length.symm)
  have hi : i = 0 ∨ i = 1 ∨ 2 ≤ i := by omega
  rcases hi with rfl | rfl | h2
  · exact ⟨_, op_repT0, p, vs, rfl, b.int_eq, SqT.of hp, hv, fun p2 n => q _ _ μ _ h (Keep.new n) (c.new n) (.tup upd_same (c.fresh n) .nil)⟩
  · refine ⟨_, op_repT1, p, vs, rfl, b.int_eq, SqT.of hp, ?_⟩
    have e : (List.replicate (1 : Int).toNat ds).flatten = ds := by simp
    rw [e] at h
    exact q _ _ μ H h Keep.refl c (.tup hp mp r)
  · exact ⟨_, op_repT, p, i, vs, rfl, b.int_eq, SqT.of hp, hv, h2, h1, by rw [r.length]; omega, fun p2 n => q _ _ μ _ h (Keep.new n) (c.new n) (.tup upd_same (c.fresh n) ((r.rep _).keep (Keep.new n)))⟩
theorem flat_one {α : Type} (n : Nat) (x : α) : (List.replicate n [x]).flatten = List.replicate n x := by
  induction n with
  | zero => rfl
  | succ n ih => rw [List.replicate_succ, List.flatten_cons, ih, List.replicate_succ]; rfl
/-! ### any(t), t a tuple of ints -/
theorem truth_ints {prog : Program} {w : World} {A : Around} {ns : List Int} {its : List Value} (e : IntsAre its ns) :
    TruthOf prog w A (fun i v => its.toArray[i]? = some v) (fun i => (ns.map fun n => n != 0).getD i false) := fun i v s Q E hv hq => by
  have hv' : its[i]? = some v := by simpa using hv
  have hi : i < ns.length := by
    have := (List.getElem?_eq_some_iff.mp hv').1
    rwa [e.length] at this
  have aux : ∀ {its : List Value} {ns : List Int} {i : Nat} {v : Value}, IntsAre its ns → its[i]? = some v → ∃ n t, ns[i]? = some n ∧ v = .int n t := by
    intro its ns i v e
    induction e generalizing i with
    | nil => intro h; simp at h
    | @cons n t vs ms r ih =>
      intro h
      cases i with
      | zero => simp at h; exact ⟨n, t, rfl, h.symm⟩
      | succ i => simpa using ih (by simpa using h)
  obtain ⟨n, t, h1, rfl⟩ := aux e hv'
  have hg : (ns.map fun n => n != 0).getD i false = (n != 0) := by rw [List.getD_eq_getElem?_getD, List.getElem?_map, h1]; rfl
  have hq' : Q ((ns.map fun n => n != 0).getD i false) s := hq
  rw [hg] at hq'
  exact PyProof.Rows.truthy_int hq'
def rAnyT (K : PySem.W.Frag) : List V → Hp → L2.VK → Prop := fun vs H Q => ∃ (a : Addr) (ns : List Int), vs = [V.ref a] ∧ SqT K H a (ns.map V.int) ∧ Q (.bl (ns.any fun n => n != 0)) H
theorem cr_anyT (hc : X.calm = true) : CallR X (.builtin "any") (rAnyT X.K) := by
  intro pins s σ H vs us Q I r h
  obtain ⟨a, ns, rfl, hs, q⟩ := h
  obtain ⟨its, rv, hl, _⟩ := I.tuple hs
  rw [Vals.ref1 r]
  have hb := rv.ints
  have hlt : a < s.heap.objs.size := hl.lt
  refine call_any_walk (wpAny_pyIter_tuple (show s.heap.IsTuple a its.toArray from hl) ?_)
  refine ⟨_, _, _, _, _, _, _, rfl, Walks.tuple (A := X.A.in1) (I.ok.hd hc) _ a (Nat.ne_of_lt hlt) its.toArray, ⟨⟨_, Heap.get?_push_size _ rfl, rfl, rfl⟩, ?_⟩, truth_ints hb, fun h' tk hk => ?_⟩
  · obtain ⟨o, e, r⟩ := hl
    exact ⟨o, Heap.get?_push_of_some _ e, r⟩
  · refine ⟨.bl _, H, I.kept fun b o eo => hk b o (fun hmem => ?_) (Heap.get?_push_of_some _ eo), ?_, q⟩
    · rcases List.mem_cons.mp hmem with e1 | hmem
      · exact absurd (e1 ▸ Heap.lt_size eo) (Nat.lt_irrefl _)
      · cases hmem
    · show Value.bool _ = Value.bool _
      have e : its.toArray.size = (ns.map fun n => n != 0).length := by rw [List.size_toArray, List.length_map, hb.length]
      rw [e, L2.any_range, List.any_map]
      rfl
theorem cd_anyT {ns : List Int} (hc : X.calm = true) (h : k (.bl (ns.any fun n => n != 0)) μ) : CD X.K (WC X (.builtin "any")) [.tup (ns.map .int)] μ k := cd_of (cr_anyT hc) fun vs H Q a sa q => by
  obtain ⟨v, rfl, r⟩ := reps1 a
  obtain ⟨p, ws, rfl, hp, mp, r2⟩ := r.tup_at
  have e := r2.ints
  subst e
  exact ⟨p, ns, rfl, SqT.of hp, q _ _ μ H h Keep.refl sa (.bl _)⟩
/-! ### d != {} -/
def rNeE : R2 := fun x y H Q => ∃ a b ks, x = .ref a ∧ y = .ref b ∧ H a = some (.dK ks) ∧ H b = some (.dK []) ∧ Q (.bl (!ks.isEmpty)) H
theorem op_ne_empty (hu : X.A.units < cLine) : OpR X (compareOp .NotEq) rNeE := by
  intro pins s σ H x y v u Q I rx ry h
  obtain ⟨a, b, ks, rfl, rfl, ea, eb, q⟩ := h
  obtain rfl : v = Value.ref a := rx
  obtain rfl : u = Value.ref b := ry
  obtain ⟨_, ya, va, ra, da⟩ := (show ObjOk X.prog X.w H s.heap a (.dK ks) from I.hok a _ ea)
  obtain ⟨_, yb, vb, rb, db⟩ := (show ObjOk X.prog X.w H s.heap b (.dK []) from I.hok b _ eb)
  have hl : va.length = ks.length := ra.length.symm
  have hb : vb = [] := List.eq_nil_of_length_eq_zero rb.length.symm
  subst hb
  refine PySem.W.keq_ne (knd := mixKind X.prog X.w) (r := true) ya yb da db hu (fun e => ?_) (fin_bl I q ?_)
  · have e2 : va = [] := List.eq_nil_of_length_eq_zero e
    subst e2
    exact .nil
  · rw [hl]
    cases ks <;> simp
theorem rd_neE {p p2 : Addr} {kvs : List (Key × D)} (hu : X.A.units < cLine) (h1 : μ p = some (.dK kvs)) (h2 : μ p2 = some (.dK [])) (h : k (.bl (!kvs.isEmpty)) μ) : RD K (WO X (compareOp .NotEq)) (.ref p) (.ref p2) μ k := rd_of (op_ne_empty hu) fun v u H Q a b c q => by
  obtain ⟨ws, e1, r1⟩ := c p _ h1
  obtain ⟨ws2, e2, r2⟩ := c p2 _ h2
  cases r2
  have e : ws.isEmpty = kvs.isEmpty := by cases r1 <;> rfl
  exact ⟨p, p2, ws, a.ref_eq, b.ref_eq, e1, e2, by rw [e]; exact q _ _ μ H h Keep.refl c (.bl _)⟩
/-! ### x in xs -/
theorem flat_map (ns : List Int) : (ns.map V.int).all flatV = true := by
  rw [List.all_map, List.all_eq_true]
  intro _ _
  rfl
theorem in_map (i : Int) (ns : List Int) : inV (.int i) (ns.map V.int) = ns.contains i := by
  unfold inV
  induction ns with
  | nil => rfl
  | cons n ns ih =>
    rw [List.map_cons, List.any_cons, ih, List.contains_cons]
    congr 1
    show (n == i) = (i == n)
    exact Bool.eq_iff_iff.mpr ⟨fun h => by rw [beq_iff_eq] at h ⊢; exact h.symm, fun h => by rw [beq_iff_eq] at h ⊢; exact h.symm⟩
theorem rd_in {x : D} {ns : List Int} (hx : SqD μ x (ns.map .int)) (h : k (.bl (ns.contains i)) μ) : RD X.K (WO X (compareOp .In)) (.int i) x μ k := rd_of op_in_seq fun v u H Q a b c q => by
  have e1 := a.int_eq
  subst e1
  rcases hx with rfl | hx
  · obtain ⟨p, ws, rfl, hp, mp, r2⟩ := b.tup_at
    have e2 := r2.ints
    subst e2
    exact ⟨p, _, rfl, .inr (SqT.of hp), rfl, flat_map ns, by rw [in_map]; exact q _ _ μ H h Keep.refl c (.bl _)⟩
  · obtain ⟨p, ws, rfl, hp, r2⟩ := hx.at_ c b
    have e2 := r2.ints
    subst e2
    exact ⟨p, _, rfl, .inl hp, rfl, flat_map ns, by rw [in_map]; exact q _ _ μ H h Keep.refl c (.bl _)⟩
theorem rd_notIn {x : D} {ns : List Int} (hx : SqD μ x (ns.map .int)) (h : k (.bl (!ns.contains i)) μ) : RD X.K (WO X (compareOp .NotIn)) (.int i) x μ k := rd_of op_notIn_seq fun v u H Q a b c q => by
  have e1 := a.int_eq
  subst e1
  rcases hx with rfl | hx
  · obtain ⟨p, ws, rfl, hp, mp, r2⟩ := b.tup_at
    have e2 := r2.ints
    subst e2
    exact ⟨p, _, rfl, .inr (SqT.of hp), rfl, flat_map ns, by rw [in_map]; exact q _ _ μ H h Keep.refl c (.bl _)⟩
  · obtain ⟨p, ws, rfl, hp, r2⟩ := hx.at_ c b
    have e2 := r2.ints
    subst e2
    exact ⟨p, _, rfl, .inl hp, rfl, flat_map ns, by rw [in_map]; exact q _ _ μ H h Keep.refl c (.bl _)⟩
/-! ### isinstance(x, T) -/
theorem cd_isi {x : D} {T t : String} {b : Bool} (ht : ∀ H v, Rep X.K μ H v x → TyX X.K H v (.type t)) (hb : kitB t T = some b) (h : k (.bl b) μ) : CD X.K (WC X (.builtin "isinstance")) [x, .ty T] μ k := cd_of call_isi fun vs H Q a sa q => by
  obtain ⟨v, w, rfl, r1, r2⟩ := reps2 a
  have e : w = .ty T := by cases r2; rfl
  subst e
  exact ⟨v, _, _, _, b, rfl, .ty T, ht H v r1, kit_ty hb, q _ _ μ H h Keep.refl sa (.bl _)⟩
theorem tyx_int {i : Int} (H : Hp) (v : V) (r : Rep X.K μ H v (.int i)) : TyX X.K H v (.type "int") := by
  have e := r.int_eq
  subst e
  exact .base (.int i)
theorem tyx_tup {H : Hp} {v : V} (r : Rep X.K μ H v (.tup ds)) : TyX X.K H v (.type "tuple") := by
  obtain ⟨p, ws, rfl, hp, _, _⟩ := r.tup_at
  exact .base (.tup hp)
end
end DL
set_option Elab.async false
set_option linter.all false
set_option maxRecDepth 100000
set_option maxHeartbeats 2000000
/-! Data layer, part 7: all(elt for x in it), every element true; the element may call. -/
namespace DL
open PySem PySem.Spec PyProof.Rows L2

/-- the context of a generator expression that A wakes -/
abbrev gX (X : Cx) (A : Around) (s : Shared) (H : Hp) (env : Env) (fp : List Addr) (pn : List (Addr × Obj)) : Cx :=
  { X with A := A.deeper env, s_0 := s, H_0 := H, env := env, outer := X.stack, stack := env :: X.stack, ex := fp, fn := fun _ => false, calm := true, pn := pn, xe := fun _ _ => False }
section
variable {X : Cx} {pins : List (Addr × Obj)} {σ : L2.St} {H : Hp} {s : Shared}
theorem gen_start {A : Around} {scope : Scope} {own : List (Str × Nat)} {fp : List Addr} {code : Value} {h5 : Heap} {g5 : Array GenState} {t5 : Nat} {m : Str → Option Value} {a : Addr} {go : Obj} (I : Inv X pins σ H s) (ok : BlkOk X.N X.env.scope scope own) (hcell : ∀ y ∈ scope.names, y.2 ≠ .cell) (hN : X.N.Nodup)
    (hfp : ∀ b ∈ fp, FpOk X pins H b ∧ b < s.heap.objs.size) (hA : A.handled = none) (hfr : A.frames = some X.stack) (kp : ∀ b o, s.heap.get? b = some o → h5.get? b = some o) (hn : h5.Ns s.heap.objs.size m) (ha : h5.get? a = some go) (hlt : s.heap.objs.size < a) (hgo : ∀ v, go.data ≠ .cell v) (hg : AllBare g5) :
    Inv (gX X A s H (genEnv scope (cloFrom X.env.cells scope.names []) s.heap.objs.size code builtinsNs X.env) fp [(a, go)]) [] (wipe σ (own.map (·.2))) H { s with heap := h5, gens := g5, toks := t5 } := by
  have hfree : ∀ y ∈ scope.names, y.2 = .free → ∃ c, X.env.cells.lookup y.1 = some c := fun y hy e => by
    rcases ok.free y hy e with k | k
    · exact I.ok.has _ (.inl k)
    · exact I.ok.has _ (.inr k)
  generalize hcenv : genEnv scope (cloFrom X.env.cells scope.names []) s.heap.objs.size code builtinsNs X.env = cenv
  have hL : cenv.locals = s.heap.objs.size := by rw [← hcenv]; rfl
  have hcl : cenv.cells = cloFrom X.env.cells scope.names [] := by rw [← hcenv]; rfl
  have hsc : cenv.scope = scope := by rw [← hcenv]; rfl
  have cm : ∀ {y c}, cenv.cells.lookup y = some c → X.env.cells.lookup y = some c ∧ c < s.heap.objs.size := fun {y c} e => by
    rw [hcl] at e
    have hm := PySem.mem_of_lookup e
    rcases cloFrom_mem hm with hm | ⟨h1, rfl⟩
    · cases hm
    · obtain ⟨c, hc⟩ := hfree _ h1 rfl
      rw [hc]
      obtain ⟨w, z⟩ := I.cell _ _ hc
      exact ⟨rfl, z.lt⟩
  have look : ∀ {y}, scope.names.lookup y = some .free → ∃ c, cenv.cells.lookup y = some c ∧ X.env.cells.lookup y = some c := fun {y} hl => by
    have hy : (y, NameKind.free) ∈ scope.names := PySem.mem_of_lookup hl
    obtain ⟨c', e'⟩ := mem_lookup (cloFrom_has (cells := X.env.cells) (acc := []) hy)
    rw [← hcl] at e'
    exact ⟨c', e', (cm e').1⟩
  have nocell : ∀ {y}, scope.names.lookup y ≠ some .cell := fun {y} e => hcell _ (PySem.mem_of_lookup e) rfl
  have okB : (gX X A s H cenv fp [(a, go)]).Ok := by
    refine ⟨I.ok.mod, by show cenv.scope.kind = _; rw [hsc]; exact ok.kind, by show cenv.globals = _; rw [← hcenv]; exact I.ok.glob, by show cenv.builtins = _; rw [← hcenv]; rfl, by show s.heap.objs.size ≤ cenv.locals; rw [hL]; exact Nat.le_refl _,
      fun y z c e1 e2 => I.ok.inj y z c (cm e1).1 (cm e2).1, fun y hy => ?_, fun y c z e => (Bool.noConfusion z), fun _ => hA, Around.frames_deeper hfr, .inr ⟨rfl, by show cenv.frame = some cenv.locals; rw [← hcenv]; rfl⟩, fun b hb => ⟨?_, fun y c e z => ?_⟩, I.bs, Nat.le_trans I.ok.bsz I.sz, fun b o e hb => ?_, fun b hb z => ?_, I.stack, I.stkFree⟩
    · have hy : cenv.scope.names.lookup y = some .cell ∨ cenv.scope.names.lookup y = some .free := hy
      rw [hsc] at hy
      rcases hy with hy | hy
      · exact absurd hy nocell
      · obtain ⟨c, h1, _⟩ := look hy
        exact ⟨c, h1⟩
    · show b ≠ cenv.locals
      rw [hL]; exact Nat.ne_of_lt (hfp b hb).2
    · exact (hfp b hb).1.2.2.2.2.1 y c (cm e).1 z
    · rcases (hfp b hb).1.2.2.2.1 with z | z
      · exact I.ok.noex b o e z
      · exact absurd (Nat.lt_of_lt_of_le (Heap.lt_size e) (Nat.le_trans I.ok.bsz z)) (Nat.lt_irrefl _)
    · rcases List.mem_cons.mp (I.stkSub b z) with z | z
      · exact (hfp b hb).1.2.1 z
      · exact (hfp b hb).1.2.2.1 z
  refine ⟨okB, rfl, hg, Un.kept kp, ⟨m, ?_, fun i y av e1 e2 e3 => ?_⟩, fun y c e => ?_, ?_, fun y c e => I.freeC y c (cm e).1, fun p hp => ?_, I.hok.kept kp, by rw [wipe_length]; exact I.len⟩
  · show Heap.Ns _ cenv.locals _
    rw [hL]
    exact hn
  · obtain ⟨e2, hne⟩ := wipe_some e2
    have e3 : Vis cenv.scope y := e3
    rw [hsc] at e3
    have hfr : scope.names.lookup y = some .free := by
      rcases e3 with e3 | e3 | e3
      · rcases ok.own _ (PySem.mem_of_lookup e3) (.inl rfl) with e' | e'
        · obtain ⟨p, hp, hpy⟩ := List.mem_map.mp e'
          have e4 := ok.ix p hp
          have : p.1 = y := hpy
          rw [this] at e4
          exact absurd (List.mem_map.mpr ⟨p, hp, nodup_ix hN e4 e1⟩) hne
        · exact absurd (List.mem_of_getElem? e1) e'
      · exact absurd e3 nocell
      · exact e3
    obtain ⟨m', hn', hl⟩ := I.loc
    have hvis : Vis X.env.scope y := (ok.free _ (PySem.mem_of_lookup hfr) rfl).elim (fun k => .inr (.inl k)) (fun k => .inr (.inr k))
    obtain ⟨w, r, q⟩ := hl i y av e1 e2 hvis
    refine ⟨w, r, .inr ⟨.inr (by show cenv.scope.names.lookup y = _; rw [hsc]; exact hfr), ?_⟩⟩
    obtain ⟨c, h1, h2⟩ := look hfr
    rcases q with ⟨k, _⟩ | ⟨_, c', e', z⟩
    · have k : X.env.scope.names.lookup y = some .local := k
      rcases ok.free _ (PySem.mem_of_lookup hfr) rfl with k' | k' <;> rw [show X.env.scope.names.lookup y = _ from k'] at k <;> cases k
    · rw [h2] at e'; cases e'
      exact ⟨c, h1, z.keeps kp⟩
  · obtain ⟨w, z⟩ := I.cell y c (cm e).1
    exact ⟨w, z.keeps kp⟩
  · show H cenv.locals = none
    rw [hL]; exact I.hok.fresh (Nat.le_refl _)
  · have hp : p = (a, go) := by
      have z : p ∈ [(a, go)] ++ [] := hp
      simpa using z
    rw [hp]
    refine ⟨ha, I.hok.fresh (Nat.le_of_lt hlt), ?_, fun z => ?_, hgo⟩
    · show a ≠ cenv.locals
      rw [hL]; exact Nat.ne_of_gt hlt
    · have z : a ∈ frs X.stack := z
      obtain ⟨_, o, ho, _⟩ := I.stack.mem z
      exact absurd (Nat.lt_trans (Heap.lt_size ho) hlt) (Nat.lt_irrefl _)
end

theorem over_gen {A : Around} {elt : Expr} {gs : List Comprehension} {scope : Scope} {pos : Pos} {it acc : Value} {env : Env} :
    A.over (.compLoop (.GeneratorExp elt gs scope pos) 0 it acc env) [] = A.deeper env := by
  first
    | rfl
    | (obtain ⟨hd, d, fr, gs, u⟩ := A; simp [Around.over, Around.deeper, marksOver, frameCount, unitsOf, envsOf, guardsOf, pushEnvs, pushGuards, Code.envs, Code.env?, Code.isFrame, Code.guards, Code.isGuard, Code.weight, Code.frames, Code.isCreation, Code.isCaller, Code.cUnits])
theorem over_gen0 {A : Around} {elt : Expr} {gs : List Comprehension} {scope : Scope} {pos : Pos} {it acc : Value} {env : Env} :
    A.over (.compStart (.GeneratorExp elt gs scope pos) 0 it acc env) [] = A.deeper env := by
  first
    | rfl
    | (obtain ⟨hd, d, fr, gs, u⟩ := A; simp [Around.over, Around.deeper, marksOver, frameCount, unitsOf, envsOf, guardsOf, pushEnvs, pushGuards, Code.envs, Code.env?, Code.isFrame, Code.guards, Code.isGuard, Code.weight, Code.frames, Code.isCreation, Code.isCaller, Code.cUnits])

/-- what stands between the generator's turns: n more to come -/
structure GSt (X : Cx) (σ : L2.St) (fp : List Addr) (tn : Nat → Heap → Prop) (W : Nat → Nat → Hp → Prop) (i n : Nat) (s : Shared) : Prop where
  ex : ∃ H, Inv X [] σ H s ∧ tn i s.heap ∧ (∀ b ∈ fp, H b = none) ∧ W i n H
def GYp (X : Cx) (σ : L2.St) (fp : List Addr) (tn : Nat → Heap → Prop) (W : Nat → Nat → Hp → Prop) : Protocol := fun m s₀ v s kap =>
  v = .bool true ∧ (∃ i, GSt X σ fp tn W i m s) ∧ ∀ s'', s''.os = s.os → s''.heap = s.heap → AllBare s''.gens → kap (.send .none) s''
def GEp (X : Cx) (σ : L2.St) (fp : List Addr) (Q : Hp → Prop) : Nat → Shared → Shared → Prop := fun n s₀ s => ∃ H, Inv X [] σ H s ∧ Q H
theorem GSt.same {X : Cx} {σ : L2.St} {fp : List Addr} {tn : Nat → Heap → Prop} {W : Nat → Nat → Hp → Prop} {i n : Nat} {s s' : Shared} (h : GSt X σ fp tn W i n s) (ho : s'.os = s.os) (hh : s'.heap = s.heap) (hb : AllBare s'.gens) : GSt X σ fp tn W i n s' := by
  obtain ⟨H, I, st, fr, w⟩ := h
  refine ⟨H, I.call' (ch := []) ho (Un.kept fun _ _ e => by rw [hh]; exact e) (I.hok.kept fun _ _ e => by rw [hh]; exact e) hb fun b z => by simp at z, by rw [hh]; exact st, fr, w⟩

/-- what is asked of a turn -/
def GTurn (X : Cx) (J : It) (g : TG) (te : TE) (σ : L2.St) (W : Nat → Nat → Hp → Prop) (Q : Hp → Prop) : Prop := ∀ i n H, W i n H →
  (J.stop i H ∧ Q H) ∨ ∃ m, n = m + 1 ∧ J.go i H ∧ ∀ x H', J.yld i H x H' → g x σ H' fun σ2 H2 => (∀ (j : Nat) v, σ[j]? = some (some v) → σ2[j]? = some (some v)) ∧ σ2.length = σ.length ∧ te σ2 H2 fun y H4 => y = .bl true ∧ W (i + 1) m H4

section
variable {X : Cx} {A : Around} {elt tg iter : Expr} {scope : Scope} {pos : Pos} {σ : L2.St} {fp : List Addr} {tn : Nat → Heap → Prop} {J : It} {it : Addr} {g : TG} {te : TE} {W : Nat → Nat → Hp → Prop} {Q : Hp → Prop}
theorem seg_all (hA : A.deeper X.env = X.A) (hxe : ∀ e s, ¬ X.xe e s) (hc : X.calm = true) (hco : X.env.scope.isCoroutine = false) (hex : X.ex = fp) (hpn : ∀ b ∈ fp, ∀ p ∈ X.pn, p.1 ≠ b) (T : Turn X.prog X.w X.K tg J fp it tn) (hg : PG X tg g) (he : PE X elt te) (turn : GTurn X J g te σ W Q) :
    ∀ (n i : Nat) (s₀ s : Shared), GSt X σ fp tn W i n s →
      Seg (model X.prog X.w) A (fun n s₀ r s₁ => r = .ok .next ∧ GEp X σ fp Q n s₀ s₁) (GYp X σ fp tn W) n s₀ (.compLoop (.GeneratorExp elt [⟨tg, iter, [], 0⟩] scope pos) 0 (.ref it) .none X.env)
        ((model X.prog X.w).den (.compLoop (.GeneratorExp elt [⟨tg, iter, [], 0⟩] scope pos) 0 (.ref it) .none X.env)) [] s := by
  intro n
  induction n with
  | zero =>
    rintro i s₀ s ⟨H, I, st, fr, w⟩
    have stat : ∀ b ∈ fp, FpOk X [] H b := fun b hb => ⟨fr b hb, (I.ok.exf b (hex ▸ hb)).1, I.ok.exfs b (hex ▸ hb), .inl (hex ▸ hb), fun x c e => (I.ok.exf b (hex ▸ hb)).2 x c e, fun p hp => hpn b hb p (by simpa using hp)⟩
    rcases turn i 0 H w with ⟨stop, q⟩ | ⟨m, hm, _⟩
    · show Seg _ A _ _ _ s₀ _ ((compTurn (.GeneratorExp elt [⟨tg, iter, [], 0⟩] scope pos) 0 (.ref it) .none X.env).onRaise (leaving X.env)) [] s
      rw [compTurn_gen, Sem.onRaise_eq_wrap]
      refine seg_bind_wrap (wpAny_standAt ?_)
      refine seg_bind_wrap ?_
      rw [over_gen, hA]
      refine thnF (T.done X rfl rfl rfl hc i [] s σ H (fun _ _ => False) I stat st stop) fun r s1 ⟨hr, I1⟩ => ?_
      subst hr
      exact seg_end (.ok .next) ⟨rfl, H, I1, q⟩
    · cases hm
  | succ n ih =>
    rintro i s₀ s ⟨H, I, st, fr, w⟩
    have stat : ∀ {H' : Hp}, (∀ b ∈ fp, H' b = none) → ∀ b ∈ fp, FpOk X [] H' b := fun fr' b hb => ⟨fr' b hb, (I.ok.exf b (hex ▸ hb)).1, I.ok.exfs b (hex ▸ hb), .inl (hex ▸ hb), fun x c e => (I.ok.exf b (hex ▸ hb)).2 x c e, fun p hp => hpn b hb p (by simpa using hp)⟩
    show Seg _ A _ _ _ s₀ _ ((compTurn (.GeneratorExp elt [⟨tg, iter, [], 0⟩] scope pos) 0 (.ref it) .none X.env).onRaise (leaving X.env)) [] s
    rw [compTurn_gen, Sem.onRaise_eq_wrap]
    refine seg_bind_wrap (wpAny_standAt ?_)
    rcases turn i (n + 1) H w with ⟨stop, q⟩ | ⟨m, hm, go, step⟩
    · refine seg_bind_wrap ?_
      rw [over_gen, hA]
      refine thnF (T.done X rfl rfl rfl hc i [] s σ H (fun _ _ => False) I (stat fr) st stop) fun r s1 ⟨hr, I1⟩ => ?_
      subst hr
      exact seg_end (.ok .next) ⟨rfl, H, I1, q⟩
    · have hm : n = m := by omega
      subst hm
      refine seg_bind_wrap ?_
      rw [over_gen, hA]
      refine thnF (T.item X rfl rfl rfl hc i [] s σ H (fun _ _ => False) I (stat fr) st go) fun r s1 ⟨u, hr, h1⟩ => ?_
      subst hr
      refine seg_bind_wrap ?_
      rw [over_gen, hA]
      refine thnF h1 fun _ s2 ⟨x, H2, I2, r2, y2, st2, n2⟩ => ?_
      have I2' := I2.pinned (stat n2) (T.obj _ _ st2)
      refine seg_bind_wrap ?_
      rw [over_gen, hA]
      refine wpAny_mono (hg.run _ s2 σ H2 x u _ I2' r2 (step x H2 y2)) (fun _ s3 ⟨σ3, H3, I3, hsub, hlen, q3⟩ => ?_) ?_
      · refine seg_bind_wrap (wpAny_pure ?_)
        simp only [if_true]
        have hy : ∀ v, yieldOut X.env v = yieldValue v := fun v => by simp only [yieldOut, hco, Bool.false_eq_true, if_false]
        simp only [hy]
        rw [Sem.bind_eq_wrap', Sem.bind_eq_wrap', Sem.wrap_wrap, Sem.wrap_wrap]
        refine seg_wrap ?_
        rw [over_gen, hA]
        refine wpAny_mono (he.run _ s3 σ3 H3 _ I3 q3) (fun y s4 ⟨yv, H4, I4, r4, ey, w4⟩ => ?_) ?_
        · subst ey
          have ey : y = .bool true := r4
          subst ey
          have fin : GSt X σ fp tn W (i + 1) n s4 := by
            have pin' : ∀ b ∈ fp, ∀ o, s2.heap.get? b = some o → s4.heap.get? b = some o ∧ H4 b = none := fun b hb o e =>
              let z := I4.pin (b, o) (List.mem_append_right _ (List.mem_append_right _ (mem_pinsAt hb e)))
              ⟨z.1, z.2.1⟩
            refine ⟨H4, (I4.unpinned (pins := [])).weak hlen.symm hsub, T.keep _ _ _ st2 fun b hb o e => (pin' b hb o e).1, fun b hb => ?_, w4⟩
            obtain ⟨o, e, _⟩ := T.obj _ _ st2 b hb
            exact (pin' b hb o e).2
          refine seg_at (seg_yield rfl rfl rfl ⟨rfl, ⟨i + 1, fin⟩, fun s'' ho hh hb => ?_⟩)
          exact seg_again rfl (ih (i + 1) s'' s'' (fin.same ho hh hb))
        · exact fun e s' hx => (hxe e s' hx).elim
      · exact fun e s' hx => (hxe e s' hx).elim

theorem seg_all0 (hA : A.deeper X.env = X.A) (hxe : ∀ e s, ¬ X.xe e s) (hc : X.calm = true) (hco : X.env.scope.isCoroutine = false) (hex : X.ex = fp) (hpn : ∀ b ∈ fp, ∀ p ∈ X.pn, p.1 ≠ b) (T : Turn X.prog X.w X.K tg J fp it tn) (hg : PG X tg g) (he : PE X elt te) (turn : GTurn X J g te σ W Q) (n i : Nat) (s₀ s : Shared) (h : GSt X σ fp tn W i n s) :
      Seg (model X.prog X.w) A (fun n s₀ r s₁ => r = .ok .next ∧ GEp X σ fp Q n s₀ s₁) (GYp X σ fp tn W) n s₀ (.compStart (.GeneratorExp elt [⟨tg, iter, [], 0⟩] scope pos) 0 (.ref it) .none X.env)
        ((model X.prog X.w).den (.compStart (.GeneratorExp elt [⟨tg, iter, [], 0⟩] scope pos) 0 (.ref it) .none X.env)) [] s := by
  have loop := seg_all (iter := iter) (scope := scope) (pos := pos) hA hxe hc hco hex hpn T hg he turn n i s₀ s h
  have st : tn i s.heap := let ⟨_, _, st, _⟩ := h.ex; st
  show Seg _ A _ _ _ s₀ _ ((compStart (.GeneratorExp elt [⟨tg, iter, [], 0⟩] scope pos) 0 (.ref it) .none X.env).onRaise (leaving X.env)) [] s
  unfold compStart
  rw [Sem.onRaise_eq_wrap]
  show Seg _ A _ _ _ s₀ _ ((ask >>= _).wrap _ _ _ _) [] s
  refine seg_bind_wrap (wpAny_askSetting ?_)
  split
  · exact seg_again rfl loop
  · first
      | exact seg_bind_wrap (wpAny_rule (seg_bind_wrap (wpAny_standAt (seg_bind_wrap (T.self _ _ _ _ _ st (seg_again rfl loop))))))
      | (refine seg_bind_wrap (wpAny_rule ?_); show Seg _ A _ _ _ s₀ _ ((standAt iter.pos >>= _).wrap _ _ _ _) [] s; exact seg_bind_wrap (wpAny_standAt (seg_bind_wrap (T.self _ _ _ _ _ st (seg_again rfl loop)))))

/-- all(g): the generator sleeps, woken from A.in1.in1 -/
theorem all_loop {A0 : Around} {R : Result → Shared → Prop} {a : Addr} {gn : Nat} (hA0 : A0.handled = none) (hd : A0.depth < recursionLimit) (hgen : ∀ (σ : L2.St) (H : Hp) (s : Shared), Inv X [] σ H s → s.heap.IsGen a gn)
    (hR : ∀ s1 H, Inv X [] σ H s1 → Q H → ∀ s', s'.os = s1.os → AllBare s'.gens → (∀ b o, s1.heap.get? b = some o → s'.heap.get? b = some o) → R (.ok (.ret (.bool true))) s') :
    ∀ (n : Nat) (s : Shared), (∃ i, GSt X σ fp tn W i n s) → (∃ gs, s.gens[gn]? = some gs ∧ gs.Goes (model X.prog X.w) A0.in1.in1 (fun n s₀ r s₁ => r = .ok .next ∧ GEp X σ fp Q n s₀ s₁) (GYp X σ fp tn W) n (.send .none) (s.setGen gn .running)) →
      codeAny (model X.prog X.w) A0 (.builtin "all.loop" ⟨[.ref a], []⟩) R s := by
  intro n
  induction n with
  | zero =>
    rintro s ⟨i, H, I, st, fr, w⟩ ⟨gs, hgs, hgo⟩
    refine codeAny_builtin F.entry_all_loop ?_
    rw [Around.under_plainId F.plain_all_loop _]
    show wpAny _ A0.in1 (pyNext (.ref a) >>= _) _ _ s
    refine wpAny_bind (wpAny_pyNext_genexpQ (A := A0.in1) hA0 I.nolimit hd (hgen σ H s I) hgs hgo (fun v s₁ gs' hb hv => ?_) (fun s₁ hp h' hk => ?_))
    · obtain ⟨_, ⟨j, H1, I1, _⟩, hk⟩ := hv
      exact (hk s₁ rfl rfl I1.bare).elim
    · obtain ⟨H1, I1, q1⟩ := hp
      refine wpAny_bind (wpAny_rule (wpAny_pure ?_))
      exact hR s₁ H1 I1 q1 _ rfl (allBare_setGen I1.bare rfl) hk
  | succ n ih =>
    rintro s ⟨i, H, I, st, fr, w⟩ ⟨gs, hgs, hgo⟩
    have hgl : gn < s.gens.size := (Array.getElem?_eq_some_iff.mp hgs).1
    refine codeAny_builtin F.entry_all_loop ?_
    rw [Around.under_plainId F.plain_all_loop _]
    show wpAny _ A0.in1 (pyNext (.ref a) >>= _) _ _ s
    refine wpAny_bind (GenW.wpAny_gsz (n := gn + 1) hgl (wpAny_pyNext_genexpQ (A := A0.in1) hA0 I.nolimit hd (hgen σ H s I) hgs hgo (fun v s₁ gs' hb hv => ?_) (fun s₁ hp h' hk => ?_)))
    · intro hsz
      obtain ⟨ev, ⟨j, h1⟩, hk⟩ := hv
      subst ev
      have b1 : AllBare s₁.gens := let ⟨_, I1, _⟩ := h1.ex; I1.bare
      have hsz1 : gn < s₁.gens.size := by
        have q : (s₁.setGen gn gs').gens.size = s₁.gens.size := GenW.setGen_size _ _ _
        have hsz' : gn + 1 ≤ (s₁.setGen gn gs').gens.size := hsz
        omega
      refine wpAny_bind (wpAny_holding (wpAny_truthy_bool ?_))
      refine wpAny_bind (wpAny_letGo ?_)
      simp only [if_true]
      refine wpAny_pure ⟨plainId_quiet F.plain_all_loop _, ih (s₁.setGen gn gs') ⟨j, h1.same rfl rfl (allBare_setGen b1 hb)⟩ ⟨gs', setGen_at hsz1, ?_⟩⟩
      exact hk _ rfl rfl (allBare_setGen (allBare_setGen b1 hb) rfl)
    · intro hsz
      obtain ⟨H1, I1, q1⟩ := hp
      refine wpAny_bind (wpAny_rule (wpAny_pure ?_))
      exact hR s₁ H1 I1 q1 _ rfl (allBare_setGen I1.bare rfl) hk
end

/-- all(elt for x in it): the def's table may grow first; every element is true -/
def tAllG (P : Addr) (wi : TI) (g : TG) (te : TE) (vs : List Nat) : TE := fun σ H Q => wi σ H fun J H1 => GxR.TabG H1 P ∧ ∀ H2, GxR.Tabbed P H1 H2 →
  ∃ (W : Nat → Nat → Hp → Prop) (Qe : Hp → Prop), (∃ n, W 0 n H2) ∧ (∀ H', Qe H' → Q (.bl true) H') ∧ ∀ i n H, W i n H →
    (J.stop i H ∧ Qe H) ∨ ∃ m, n = m + 1 ∧ J.go i H ∧ ∀ x H', J.yld i H x H' → g x (wipe σ vs) H' fun σ2 H2 => (∀ (j : Nat) v, (wipe σ vs)[j]? = some (some v) → σ2[j]? = some (some v)) ∧ σ2.length = σ.length ∧ te σ2 H2 fun y H4 => y = .bl true ∧ W (i + 1) m H4
section
variable {X : Cx}
theorem pe_allG {c P : Addr} {elt tg iter : Expr} {p pos gpos : Pos} {scope : Scope} {own : List (Str × Nat)} {wi : TI} {g : TG} {te : TE} {k : Nat}
    (hr : Room (k + 1) X.A) (hc : X.calm = true) (hgl : Gl X "all") (hm : X.mg "all" = none) (hb : bootBuiltins "all" = some (.builtin "all")) (TB : GxR.TabB X.base X.mg c P) (hcode : X.env.code = .ref c) (hN : X.N.Nodup) (ok : BlkOk X.N X.env.scope scope own) (hcell : ∀ y ∈ scope.names, y.2 ≠ .cell)
    (hco : scope.isCoroutine = false) (hdot : scope.names.lookup (".0" : Str) = some NameKind.local) (hi : PI X tg iter wi)
    (hel : ∀ (A : Around) (s : Shared) (H : Hp) (C : Addr) (cl : List (Str × Addr)) (code : Value) (fp : List Addr) (pn : List (Addr × Obj)), Room k (A.deeper (genEnv scope cl C code builtinsNs X.env)) → PG (gX X A s H (genEnv scope cl C code builtinsNs X.env) fp pn) tg g ∧ PE (gX X A s H (genEnv scope cl C code builtinsNs X.env) fp pn) elt te)
    (hs : ∀ v, genFold iter X.env v = pure v)
    (he : starEach [.GeneratorExp elt [⟨tg, iter, [], 0⟩] scope gpos] X.env = (false, eval (.GeneratorExp elt [⟨tg, iter, [], 0⟩] scope gpos) X.env) :: starEach [] X.env := by rfl) :
    PE X (.Call (.Name "all" p) [.GeneratorExp elt [⟨tg, iter, [], 0⟩] scope gpos] [] pos) (tAllG P wi g te (own.map (·.2))) := by
  refine ⟨fun pins s σ H Q I h => ?_⟩
  have hfree : ∀ y ∈ scope.names, y.2 = .free → ∃ c, X.env.cells.lookup y.1 = some c := fun y hy e => by
    rcases ok.free y hy e with k | k
    · exact I.ok.has _ (.inl k)
    · exact I.ok.has _ (.inr k)
  refine wpAny_Call_Name_kw (ld_blt I hgl hm hb ?_)
  refine PyProof.Rows.callWith_builtin1 ?_ he (by rfl)
  rw [he]
  show wpAny _ _ (spliced ((false, eval (.GeneratorExp elt [⟨tg, iter, [], 0⟩] scope gpos) X.env) :: backTo pos (starEach [] X.env))) _ _ s
  refine Calls.spliced_cons ?_
  refine wpAny_GeneratorExp_make hco (closure_ok hfree) hcell hdot ok.kind (by have := hr.dp; omega) ?_ hs
  refine thn (hi.run pins s σ H _ I h) fun xv s1 hx => thn hx fun itv s2 h2 => ?_
  obtain ⟨it, fp, tn, J, H2, e, I2, T, st2, f2, q⟩ := h2
  subst e
  obtain ⟨⟨ps, hP, ht⟩, q⟩ := q
  have hPs : s2.heap.get? P = some { cls := .none, data := .fields ps } := I2.hok P _ hP
  have cd : PySem.W.CodeHd s2.heap c P := TB.code.keeps I2.bk
  refine ⟨I2.nolimit, ?_⟩
  have cont : ∀ (code : Value) (h3 : Heap) (tk : Nat) (more : Array Value), Heap.ExtBut P s2.heap h3 → h3.get? P = some { cls := .none, data := .fields (ps ++ more) } → TriplesOk (ps ++ more).toList →
      wpAny (model X.prog X.w) X.A (builtinsFor X.env.globals X.env.builtins) (fun bi s₄ => ∀ h', h'.Ns s₄.heap.objs.size (fun y => if y = ".0" then some (.ref it) else none) → Heap.SameBut s₄.heap.objs.size (s₄.heap.push { cls := .type "frame", data := .dict #[] }) h' →
          wpAny (model X.prog X.w) X.A (spliced (backTo pos (starEach [] X.env))) (fun vs s5 => wpAny (model X.prog X.w) X.A (call (.builtin "all") (.ref h'.objs.size :: vs)) (fun v s' => ∃ (x : V) (H' : Hp), Inv X pins σ H' s' ∧ RelV x v ∧ Q x H') X.xe s5) X.xe { s₄ with
            gens := s₄.gens.push (.fresh (.compStart (.GeneratorExp elt [⟨tg, iter, [], 0⟩] scope gpos) 0 (.ref it) .none (genEnv scope (cloFrom X.env.cells scope.names []) s₄.heap.objs.size code bi X.env))),
            toks := s₄.toks + 1 + 1 + 1,
            heap := h'.push { cls := .type "generator", data := .fields #[.int s₄.gens.size 0, .str "<genexpr>" (s₄.toks + 1), .str (X.env.qual ++ "<genexpr>") (s₄.toks + 1 + 1)] } }) X.xe { s2 with heap := h3, toks := tk } := by
    intro code h3 tk more hx hP3 ht3
    have J3 : Inv X pins σ (upd H2 P (.tbl (ps ++ more))) { s2 with heap := h3, toks := tk } := GxR.inv_tab (g' := s2.gens) (d' := s2.drawn) I2 hP (fun b u hb e => hx b u hb e) hP3 I2.bare
    have tabd : GxR.Tabbed P H2 (upd H2 P (.tbl (ps ++ more))) := ⟨⟨ps ++ more, upd_same, ht3⟩, fun b hb => upd_ne hb⟩
    obtain ⟨W, Qe, ⟨n, w0⟩, hQ, turn⟩ := q _ tabd
    have nP : ∀ b ∈ fp, b ≠ P := fun b hb z => by
      have := (f2 b hb).1
      rw [z, hP] at this
      cases this
    have st3 : tn 0 h3 := T.keep _ _ _ st2 fun b hb o e => hx b o (nP b hb) e
    obtain ⟨bm, ob, e1, e2, e3, e4, e5, e6, e7, e8⟩ := TB.bm
    have hsz : ∀ b ∈ fp, b < h3.objs.size := fun b hb => by
      obtain ⟨o, e, _⟩ := T.obj _ _ st3 b hb
      exact Heap.lt_size e
    refine wpAny_builtinsFor (m := X.mg) (by rw [J3.ok.glob]; exact J3.mod.glob.keeps J3.bk) e1 e2 (J3.bk _ _ e5) e6 e7 e8 ?_
    intro h' hn' hs'
    have hn' : h'.Ns h3.objs.size (fun y => if y = ".0" then some (.ref it) else none) := hn'
    have hs' : Heap.SameBut h3.objs.size (h3.push { cls := .type "frame", data := .dict #[] }) h' := hs'
    have hsz' : h'.objs.size = h3.objs.size + 1 := by rw [hs'.1, Heap.size_push]
    have keep' : ∀ b o, h3.get? b = some o → h'.get? b = some o := fun b o e => hs'.extBut b o (Nat.ne_of_lt (Heap.lt_size e)) (Heap.get?_push_of_some _ e)
    show wpAny (model X.prog X.w) X.A (spliced (backTo pos (starEach [] X.env))) _ _ _
    refine Calls.spliced_nil ?_
    generalize hgo : ({ cls := .type "generator", data := .fields #[.int s2.gens.size 0, .str "<genexpr>" (tk + 1), .str (X.env.qual ++ "<genexpr>") (tk + 1 + 1)] } : Obj) = go
    have hgd : go.cls = .type "generator" ∧ go.data = .fields #[.int s2.gens.size 0, .str "<genexpr>" (tk + 1), .str (X.env.qual ++ "<genexpr>") (tk + 1 + 1)] ∧ go.slots = #[] := by rw [← hgo]; exact ⟨rfl, rfl, rfl⟩
    have hgs : go.isFreed = false := by rw [← hgo]; rfl
    have hget : (h'.push go).get? h'.objs.size = some go := by rw [← hgo]; exact Heap.get?_push_size _ rfl
    have kp5 : ∀ b o, h3.get? b = some o → (h'.push go).get? b = some o := fun b o e => Heap.get?_push_of_some _ (keep' b o e)
    generalize ha : h'.objs.size = a at hget
    have f3 : ∀ b ∈ fp, FpOk X pins (upd H2 P (.tbl (ps ++ more))) b ∧ b < h3.objs.size := fun b hb => ⟨⟨by rw [upd_ne (nP b hb)]; exact (f2 b hb).1, (f2 b hb).2⟩, hsz b hb⟩
    generalize hg5 : s2.gens.push (.fresh (.compStart (.GeneratorExp elt [⟨tg, iter, [], 0⟩] scope gpos) 0 (.ref it) .none (genEnv scope (cloFrom X.env.cells scope.names []) h3.objs.size code builtinsNs X.env))) = g5
    have b5 : AllBare g5 := by rw [← hg5]; exact I2.bare.push rfl
    have Ig := fun (A : Around) (hA : A.handled = none) (hfr : A.frames = some X.stack) => gen_start (A := A) (code := code) (t5 := tk + 1 + 1 + 1) J3 ok hcell hN f3 hA hfr kp5 (hn'.push go) hget (by show h3.objs.size < a; omega) (fun v z => by rw [hgd.2.1] at z; cases z) b5
    refine call_function_tree F.kind_all F.plain_all F.entry_all (F.args_all1 _) ?_
    unfold Builtin.«all»
    refine wpAny_bind (m := oneArg "all" _) (wpAny_pure ?_)
    have hgen5 : (h'.push go).IsGen a s2.gens.size := ⟨go, _, _, hget, hgd.1, hgd.2.1, hgd.2.2⟩
    refine wpAny_bind (wpAny_pyIter_gen (s := { s2 with heap := _, gens := _, toks := _ }) hgen5 ?_)
    refine wpAny_pure ⟨plainId_quiet F.plain_all_loop _, ?_⟩
    have hdp : X.A.depth < recursionLimit := by have := hr.dp; omega
    have hI := Ig X.A.in1.in1 hr.hd J3.ok.frames
    have hroom : Room k (X.A.in1.in1.deeper (genEnv scope (cloFrom X.env.cells scope.names []) h3.objs.size code builtinsNs X.env)) :=
      ⟨hr.hd, by have := hr.dp; show X.A.depth + 1 + 3 * k + 5 < _; omega, by have := hr.un; show X.A.units + 1 + 1 + 3 + 16 * k + 200 < _; omega⟩
    obtain ⟨pg, pe⟩ := hel X.A.in1.in1 { s2 with heap := h3, toks := tk } (upd H2 P (.tbl (ps ++ more))) h3.objs.size (cloFrom X.env.cells scope.names []) code fp [(a, go)] hroom
    have hwl : (wipe σ (own.map (·.2))).length = σ.length := wipe_length _ _
    have fr3 : ∀ b ∈ fp, (upd H2 P (.tbl (ps ++ more))) b = none := fun b hb => (f3 b hb).1.1
    refine all_loop (X := gX X X.A.in1.in1 { s2 with heap := h3, toks := tk } (upd H2 P (.tbl (ps ++ more))) (genEnv scope (cloFrom X.env.cells scope.names []) h3.objs.size code builtinsNs X.env) fp [(a, go)]) (σ := wipe σ (own.map (·.2))) (fp := fp) (tn := tn) (W := W) (Q := Qe) (gn := s2.gens.size)
      hr.hd hdp (fun σ' H' s' I' => ?_) (fun s6 H6 I6 q6 s7 ho hb hk => ?_) n _ ⟨0, ⟨_, hI, T.keep _ _ _ st3 fun b _ o e => kp5 b o e, fr3, w0⟩⟩ ⟨.fresh (.compStart (.GeneratorExp elt [⟨tg, iter, [], 0⟩] scope gpos) 0 (.ref it) .none (genEnv scope (cloFrom X.env.cells scope.names []) h3.objs.size code builtinsNs X.env)), by rw [← hg5]; exact Array.getElem?_push_size .., ⟨rfl, ?_⟩⟩
    · exact ⟨go, _, _, (I'.pin (a, go) (List.mem_append_left _ (List.mem_singleton.mpr rfl))).1, hgd.1, hgd.2.1, hgd.2.2⟩
    · have I7 : Inv X pins σ H6 s6 := J3.call' (ch := fp) I6.os I6.base I6.hok I6.bare fun b hb => ⟨(f3 b hb).1.2.2.2.1, (f3 b hb).1.2.1, (f3 b hb).1.2.2.2.2.1, (f3 b hb).1.2.2.2.2.2⟩
      have I8 : Inv X pins σ H6 s7 := I7.call' (ch := []) ho (Un.kept hk) (I7.hok.kept hk) hb fun b z => by simp at z
      exact ⟨.bl true, H6, I8, rfl, hQ H6 q6⟩
    · refine seg_all0 (X := gX X X.A.in1.in1 { s2 with heap := h3, toks := tk } (upd H2 P (.tbl (ps ++ more))) (genEnv scope (cloFrom X.env.cells scope.names []) h3.objs.size code builtinsNs X.env) fp [(a, go)]) rfl (fun _ _ z => z) rfl hco rfl (fun b hb p hp z => ?_) T pg pe ?_ n 0 _ _ ⟨_, ?_, T.keep _ _ _ st3 fun b _ o e => kp5 b o e, fr3, w0⟩
      · have hp : p = (a, go) := by simpa using hp
        rw [hp] at z
        have h1 : @LT.lt Nat _ b h3.objs.size := hsz b hb
        have h2 : @Eq Nat a b := z
        have h4 : @Eq Nat h'.objs.size a := ha
        omega
      · intro i n H w
        rcases turn i n H w with z | ⟨m, hm, go', step⟩
        · exact .inl z
        · exact .inr ⟨m, hm, go', fun x H' hy => by
            have := step x H' hy
            rw [hwl]
            exact this⟩
      · exact hI.call' (ch := []) rfl (Un.kept fun _ _ e => e) (hI.hok.kept fun _ _ e => e) (allBare_setGen hI.bare rfl) fun b z => by simp at z
  cases hf : codeAmong gpos ps.toList with
  | none =>
    refine wpAny_genexprCodeX hcode (cd.code hPs ht) (cd.tab hPs) hf fun c' h' tk hx hge hlt hco' _ htab' _ => ?_
    obtain ⟨o1, vs, f1, tf, fl, tg, inF, tx, tt, op, _, _, _, _, _, _, _, _, _, htr, _⟩ := hco'
    exact cont _ h' tk _ hx htab'.2 htr
  | some cv =>
    refine wpAny_genexprCode_hit hcode (cd.code hPs ht) hf ?_
    have e0 : ps ++ #[] = ps := by simp
    exact cont cv s2.heap s2.toks #[] (Heap.ExtBut.refl _ _) (by rw [e0]; exact hPs) (by rw [e0]; exact ht)
end

section
variable {X : Cx} {δ : DS} {μ : Mem} {elt it : Expr} {scope : Scope} {own : List (Str × Nat)} {p pos gpos px : Pos} {x : Str} {ds : List D} {stay : Mem → Prop}
theorem ev_allG {c P : Addr} {lv : Nat} (j : Nat) {k : D → Mem → Prop} (hr : Room (lv + 1) X.A) (TB : GxR.TabB X.base X.mg c P) (hP : μ P = some .tab) (hi : IV X (.Name x px) it δ μ ds stay μ) (hst : stay μ)
    (he : ∀ (i : Nat) (d : D) (A : Around) (s : Shared) (H : Hp) (C : Addr) (cl : List (Str × Addr)) (code : Value) (fp : List Addr) (pn : List (Addr × Obj)), ds[i]? = some d → Room lv (A.deeper (genEnv scope cl C code builtinsNs X.env)) →
      EV (gX X A s H (genEnv scope cl C code builtinsNs X.env) fp pn) elt ((wipeD δ (own.map (·.2))).set j (some d)) μ (Is (.bl true) μ)) (hk : k (.bl true) μ)
    (hm : X.mg "all" = none) (hb : bootBuiltins "all" = some (.builtin "all")) {Ns ps : List Str} {sc : Scope} (S : FnScope Ns ps sc) (hcode : X.env.code = .ref c) (hc : X.calm = true := by rfl) (hgl : Gl X "all" := by rfl) (eN : X.N = Ns := by rfl) (eS : X.env.scope = sc := by rfl) (hok : blkC Ns sc scope own = true := by decide +kernel)
    (hj : j ∈ own.map (·.2) := by decide) (hcell : ∀ y ∈ scope.names, y.2 ≠ .cell := by decide +kernel) (hco : scope.isCoroutine = false := by rfl) (hdot : scope.names.lookup (".0" : Str) = some NameKind.local := by rfl)
    (hg : ∀ (A : Around) (s : Shared) (H : Hp) (C : Addr) (cl : List (Str × Addr)) (code : Value) (fp : List Addr) (pn : List (Addr × Obj)), X.N.Nodup → PG (gX X A s H (genEnv scope cl C code builtinsNs X.env) fp pn) (.Name x px) (gName j) := by exact fun _ _ _ _ _ _ _ _ nd => pg_name nd rfl (Or.inl rfl) (Or.inr rfl))
    (hs : ∀ v, genFold it X.env v = pure v := by intro _; rfl)
    (hse : starEach [.GeneratorExp elt [⟨.Name x px, it, [], 0⟩] scope gpos] X.env = (false, eval (.GeneratorExp elt [⟨.Name x px, it, [], 0⟩] scope gpos) X.env) :: starEach [] X.env := by rfl) :
    EV X (.Call (.Name "all" p) [.GeneratorExp elt [⟨.Name x px, it, [], 0⟩] scope gpos] [] pos) δ μ k := fun σ H Q sr sa q => by
  refine ⟨_, pe_allG (own := own) (k := lv) (te := fun σ H Q => ∀ A s H0 C cl code fp pn, Room lv (A.deeper (genEnv scope cl C code builtinsNs X.env)) → WE (gX X A s H0 (genEnv scope cl C code builtinsNs X.env) fp pn) elt σ H Q) hr hc hgl hm hb TB hcode (by rw [eN]; exact S.nd) (blkOk_by (by rw [eN, eS]; exact hok)) hcell hco hdot (pi_wi _ it)
    (fun A s H C cl code fp pn hrm => ⟨hg A s H C cl code fp pn (by rw [eN]; exact S.nd), ⟨fun pins s' σ H Q I h => (pe_we elt).run pins s' σ H Q I (h A s _ C cl code fp pn hrm)⟩⟩) hs hse, hi σ H _ sr sa fun J H1 kp1 sa1 y => ?_⟩
  refine ⟨?_, fun H2 ⟨tg, hne⟩ => ?_⟩
  · obtain ⟨ps, h1, h2⟩ := sa1 P _ hP
    exact ⟨ps, h1, h2⟩
  · have kp12 : Keep μ H1 μ H2 := fun b o e m => ⟨by
      by_cases hb : b = P
      · subst hb
        rw [hP] at m
        cases m
      · rw [hne b hb]; exact e, m⟩
    have sa2 : Sat X.K μ H2 := fun a o e => by
      by_cases ha : a = P
      · subst ha
        rw [hP] at e
        cases e
        exact tg
      · exact (sa1 a o e).keep kp12 (hne a ha)
    refine ⟨fun i n H' => n = ds.length - i ∧ i ≤ ds.length ∧ Keep μ H1 μ H' ∧ Sat X.K μ H', fun H' => Keep μ H1 μ H' ∧ Sat X.K μ H', ⟨_, rfl, Nat.zero_le _, kp12, sa2⟩, fun H' ⟨a, b⟩ => q _ _ μ H' hk (kp1.trans a) b (.bl true), ?_⟩
    rintro i n H' ⟨rfl, hle, kp, sa'⟩
    by_cases hlt : i < ds.length
    · refine .inr ⟨ds.length - (i + 1), by omega, y.go i μ H' hlt kp sa' hst, fun v H3 hy => ?_⟩
      obtain ⟨e1, d, hd, r⟩ := y.yld i μ H' v H3 hlt kp sa' hst hy
      subst e1
      have srw : SR X.K μ H3 ((wipe σ (own.map (·.2))).set j (some v)) ((wipeD δ (own.map (·.2))).set j (some d)) := (((sr.keep kp1).keep kp).wipe (own.map (·.2))).set r j
      refine ⟨fun j' v' hv => ?_, by rw [List.length_set, wipe_length], fun A s H0 C cl code fp pn hrm => ?_⟩
      · by_cases hjj : j = j'
        · subst hjj
          exact absurd hj (wipe_some hv).2
        · rw [List.getElem?_set_ne hjj]; exact hv
      · refine he i d A s H0 C cl code fp pn hd hrm _ H3 _ srw sa' fun w e μ3 H4 ⟨h1, h2⟩ kp4 sa4 r4 => ?_
        subst h1 h2
        exact ⟨r4.bl_eq, rfl, hlt, kp.trans kp4, sa4⟩
    · have e : i = ds.length := by omega
      subst e
      exact .inl ⟨y.stop μ H' kp sa' hst, kp, sa'⟩
end
end DL
set_option Elab.async false
set_option linter.all false
set_option maxRecDepth 100000
set_option maxHeartbeats 2000000
/-! Data layer, part 8: sorted(d), d's keys pairs of texts. -/
namespace DL
open PySem PySem.Spec PyProof.Rows L2
open PySem.W (KatTups kat_kind kat_lt KatLex kat_cons kat_go kat_yes kat_no kat_nil kat_one)

/-- (x, y) < (x', y') of texts -/
def lt2 (p q : Str × Str) : Bool := if p.1 = q.1 then (if p.2 = q.2 then false else decide (p.2.cps.toList < q.2.cps.toList)) else decide (p.1.cps.toList < q.1.cps.toList)
def items2 (h : Heap) (a : Addr) : List Value := match h.get? a with
  | some o => (match o.data with
    | .seq xs _ => xs.toList
    | _ => [])
  | none => []
def key2 (h : Heap) (v : Value) : Str × Str := (DT.txOf ((items2 h (DT.refOf (some v)))[0]?), DT.txOf ((items2 h (DT.refOf (some v)))[1]?))
def Key2 (h : Heap) (v : Value) (k : Str × Str) : Prop := ∃ (a : Addr) (t u : Tok), v = .ref a ∧ IsTup h a #[.str k.1 t, .str k.2 u]
theorem Key2.key {h : Heap} {v : Value} {k : Str × Str} (x : Key2 h v k) : key2 h v = k := by
  obtain ⟨a, t, u, rfl, o, ho, hc, n, hd⟩ := x
  have e : items2 h (DT.refOf (some (.ref a))) = [.str k.1 t, .str k.2 u] := by
    show items2 h a = _
    simp only [items2, ho, hd]
  unfold key2
  rw [e]
  rfl
section
variable {prog : Program} {w : World} {A : Around} {E : Value → Shared → Prop} {s : Shared}
theorem kat_key2 {vs : List Value} : ∀ vs : List Value, (∀ v ∈ vs, ∃ k, Key2 s.heap v k) → ∃ fs : List Value, KatTups s.heap vs fs ∧ fs.length = vs.length ∧ ∀ f ∈ fs, ∃ (x : Str) (t : Tok), f = .str x t
  | [], _ => ⟨[], KatTups.nil, rfl, fun f hf => by simp at hf⟩
  | v :: vs, x => by
    obtain ⟨fs, k, hl, hi⟩ := kat_key2 (vs := vs) vs fun u hu => x u (List.mem_cons_of_mem _ hu)
    obtain ⟨k0, a, t, u, rfl, o, ho, hc, n, hd⟩ := x v (List.mem_cons_self ..)
    refine ⟨.str k0.1 t :: fs, KatTups.cons ho hc hd rfl k, by rw [List.length_cons, List.length_cons, hl], fun f hf => ?_⟩
    rcases List.mem_cons.mp hf with rfl | hf
    · exact ⟨_, _, rfl⟩
    · exact hi f hf
theorem kind_key2 {vs : List Value} {ρ : Str × Str → Int} (h2 : 2 ≤ vs.length) (hu : A.units < cLine) (x : ∀ v ∈ vs, ∃ k, Key2 s.heap v k)
    (hρ : ∀ v ∈ vs, ∀ u ∈ vs, lt2 (key2 s.heap v) (key2 s.heap u) = decide (ρ (key2 s.heap v) < ρ (key2 s.heap u))) (Q : SortKind → Shared → Prop)
    (h : ∀ κ, TS.Cmp prog w A s κ (pairsOf vs) (fun v => ρ (key2 s.heap v)) → Q κ s) : wpAny (model prog w) A (keyKind' vs.toArray) Q E s := by
  obtain ⟨fs, k, hl, hi⟩ := kat_key2 (vs := vs) vs x
  refine kat_kind (T := Value.type "str") k (by omega) (fun f hf => ?_) rfl (h _ ?_)
  · obtain ⟨x, t, rfl⟩ := hi f hf
    exact PySem.W.Looks.now
  · have hb : (Value.type "str" != Value.type "tuple") = true := by first | rfl | decide | simp
    rw [hb]
    intro p q hp hq Q' E' hQ
    rw [pairsOf_toList] at hp hq
    have mp := (mem_zip_self hp).2
    have mq := (mem_zip_self hq).2
    obtain ⟨y, py⟩ := x _ mp
    obtain ⟨z, pz⟩ := x _ mq
    have hr := hρ _ mp _ mq
    have hQ' : Q' (lt2 y z) s := by
      rw [py.key, pz.key] at hr
      rw [hr]
      have hQ2 : Q' (decide (ρ (key2 s.heap p.1) < ρ (key2 s.heap q.1))) s := hQ
      rw [py.key, pz.key] at hQ2
      exact hQ2
    obtain ⟨a, t, u, e1, o, ho, hc, n, hd⟩ := py
    obtain ⟨a', t', u', e2, o', ho', hc', n', hd'⟩ := pz
    rw [e1, e2]
    refine kat_lt ho hd ho' hd' ?_
    show KatLex prog w A true false Q' [(Value.str y.1 t, Value.str z.1 t'), (Value.str y.2 u, Value.str z.2 u')] 0 s
    unfold lt2 at hQ'
    by_cases e : y.1 = z.1
    · rw [if_pos e] at hQ'
      refine kat_cons (wpAny_eqBool_str ?_)
      refine kat_go (fun _ => ?_) (fun e0 => absurd e (of_decide_eq_false e0))
      by_cases e3 : y.2 = z.2
      · rw [if_pos e3] at hQ'
        refine kat_yes (kat_cons (wpAny_eqBool_str ?_))
        refine kat_go (fun _ => ?_) (fun e0 => absurd e3 (of_decide_eq_false e0))
        exact kat_yes (kat_nil hQ')
      · rw [if_neg e3] at hQ'
        refine kat_yes (kat_cons (wpAny_eqBool_str ?_))
        refine kat_go (fun e0 => absurd (of_decide_eq_true e0) e3) (fun _ => ?_)
        refine kat_no ?_
        show wpAny _ _ (oneLt' false _ _) _ _ _
        exact kat_one _ _ (PyProof.Rows.lt_str hQ')
    · rw [if_neg e] at hQ'
      refine kat_cons (wpAny_eqBool_str ?_)
      refine kat_go (fun e0 => absurd (of_decide_eq_true e0) e) (fun _ => ?_)
      refine kat_no ?_
      show wpAny _ _ (oneLt' true _ _) _ _ _
      exact oneLt_str hQ'
end

abbrev ent2 (e : (Str × Str) × V) : List L2.Key × V := ([Sum.inr e.1.1, Sum.inr e.1.2], e.2)
section
variable {X : Cx}
/-- sorted(d) -/
theorem call_sortedT (hc : X.calm = true) (hu : X.A.units + 64 < cLine) : CallR X (.builtin "sorted") (fun xs H Q => ∃ (a : Addr) (ks : List ((Str × Str) × V)) (ρ : Str × Str → Int), xs = [.ref a] ∧ H a = some (.dT (ks.map ent2)) ∧ ks.length < 64 ∧
    (∀ e ∈ ks, ∀ f ∈ ks, lt2 e.1 f.1 = decide (ρ e.1 < ρ f.1)) ∧
    ∀ (zs : List (Addr × (Str × Str) × V)) (p : Addr), (zs.map (·.2)).Perm ks → (∀ z ∈ zs, H z.1 = some (.tup [.str z.2.1.1, .str z.2.1.2])) → H p = none → Q (.ref p) (upd H p (.lst (zs.map fun z => V.ref z.1)))) := by
  intro pins s σ H xs us Q I r q
  obtain ⟨a, ks, ρ, rfl, ha, h64, hρ, q⟩ := q
  obtain rfl := Vals.ref1 r
  obtain ⟨z, hd, xs', rel, o, es, ep, ho, hx, hdat, hes, his, hn⟩ := dt_of I.hok ha
  have l1 : (ks.map ent2).length = xs'.length := Paired.length rel
  rw [List.length_map] at l1
  have l2 : es.size = xs'.length := size_of_entries hes
  have hh : X.A.handled = none := I.ok.hd hc
  refine Calls.call_function_entry PyProof.Rows.kind_sorted PyProof.Rows.plain_sorted PyProof.Rows.entry_sorted (PyProof.Rows.args_sorted1 _) ?_
  unfold Builtin.«sorted»
  refine wpAny_bind (m := checkCount "sorted" 1 1 _) (wpAny_pure ?_)
  refine wpAny_bind (PySem.W.kdu_collect (A := X.A.in1) (kdl_raw hd hx hdat) hh ho (by rw [sizeLine_eq]; omega) fun h' tk acc hk hacc => ?_)
  -- the keys, in order
  have hl : acc.toList.length = xs'.length := by rw [Array.length_toList, hacc.1, l2]
  have ea : acc.toList = xs'.map fun x => Value.ref x.2.1 := by
    apply List.ext_getElem?
    intro j
    rw [List.getElem?_map]
    cases hj : acc.toList[j]? with
    | none =>
      have h1 := List.getElem?_eq_none_iff.mp hj
      rw [List.getElem?_eq_none (by omega)]
      all_goals rfl
    | some v =>
      obtain ⟨en, hen, hv⟩ := hacc.2 j v (by rw [← Array.getElem?_toList]; exact hj)
      have qe := entry_at hes j
      rw [hen] at qe
      cases hxj : xs'[j]? with
      | none => rw [hxj] at qe; cases qe
      | some x =>
        rw [hxj] at qe
        have e2 : entryOfKey (tupleKind (mixKind X.prog X.w)) x = en := (Option.some.inj qe).symm
        rw [hv, ← e2]
        rfl
  generalize has : xs'.map (fun x => x.2.1) = as
  have eas : acc.toList = as.map Value.ref := by rw [ea, ← has, List.map_map]; rfl
  have lak : as.length = ks.length := by rw [← has, List.length_map]; omega
  have I1 : Inv X pins σ H { s with heap := h', toks := tk } := I.kept hk
  rw [eas]
  refine wpAny_bind (wpAny_newList ?_ (by rw [List.length_map, sizeLine_eq]; omega))
  have hob : (h'.push (seqObj "list" (as.map Value.ref).toArray 0)).get? h'.objs.size = some (seqObj "list" (as.map Value.ref).toArray 0) := Heap.get?_push_size _ rfl
  show wpAny _ _ _ _ _ { s with heap := h'.push (seqObj "list" (as.map Value.ref).toArray 0), toks := tk }
  -- the keys at their places
  have pr : ∀ (j : Nat) (b : Addr), as[j]? = some b → ∃ e : (Str × Str) × V, ks[j]? = some e ∧ H b = some (.tup [.str e.1.1, .str e.1.2]) := by
    intro j b hj
    rw [← has, List.getElem?_map] at hj
    cases hxj : xs'[j]? with
    | none => rw [hxj] at hj; cases hj
    | some x =>
      rw [hxj] at hj
      have ejb : x.2.1 = b := Option.some.inj hj
      obtain ⟨e0, he0, r1, r2, r3⟩ := L2.DX.pget rel hxj
      rw [List.getElem?_map] at he0
      cases hkj : ks[j]? with
      | none => rw [hkj] at he0; cases he0
      | some e =>
        rw [hkj] at he0
        have ee : ent2 e = e0 := Option.some.inj he0
        rw [← ee] at r2
        exact ⟨e, rfl, by rw [← ejb]; exact r2⟩
  have kb : ∀ b o, h'.get? b = some o → (h'.push (seqObj "list" (as.map Value.ref).toArray 0)).get? b = some o := fun b o e => Heap.get?_push_of_some _ e
  have ne0 : ∀ b o, h'.get? b = some o → b ≠ h'.objs.size := fun b o e => Nat.ne_of_lt (Heap.lt_size e)
  generalize hh2 : h'.push (seqObj "list" (as.map Value.ref).toArray 0) = h2 at hob kb ⊢
  have pin : ∀ (j : Nat) (b : Addr), as[j]? = some b → ∃ e : (Str × Str) × V, ks[j]? = some e ∧ Key2 (TS.midHeap h2 h'.objs.size (as.map Value.ref)) (.ref b) e.1 := by
    intro j b hj
    obtain ⟨e, he, hH⟩ := pr j b hj
    obtain ⟨_, its, rv, ot, hot, hct, nt, hdt⟩ := (show ObjOk X.prog X.w H { s with heap := h', toks := tk }.heap b (.tup [.str e.1.1, .str e.1.2]) from I1.hok b _ hH)
    obtain ⟨t, u, rfl⟩ : ∃ t u, its = [Value.str e.1.1 t, Value.str e.1.2 u] := by
      cases rv with
      | cons r1 r2 =>
        cases r2 with
        | cons r3 r4 =>
          cases r4
          obtain ⟨t, rfl⟩ := r1
          obtain ⟨u, rfl⟩ := r3
          exact ⟨t, u, rfl⟩
    exact ⟨e, he, b, t, u, rfl, ot, TS.midHeap_old (ne0 _ _ hot) (kb _ _ hot), hct, nt, hdt⟩
  have tx : ∀ (j : Nat) (b : Addr) (e : (Str × Str) × V), as[j]? = some b → ks[j]? = some e → key2 (TS.midHeap h2 h'.objs.size (as.map Value.ref)) (.ref b) = e.1 := by
    intro j b e hj he
    obtain ⟨e', he', hp'⟩ := pin j b hj
    have ee : e' = e := Option.some.inj (he'.symm.trans he)
    rw [← ee]
    exact hp'.key
  have at_ : ∀ v ∈ as.map Value.ref, ∃ (j : Nat) (b : Addr) (e : (Str × Str) × V), v = .ref b ∧ as[j]? = some b ∧ ks[j]? = some e := by
    intro v hv'
    obtain ⟨b, hb, rfl⟩ := List.mem_map.mp hv'
    obtain ⟨j, hj⟩ := List.mem_iff_getElem?.mp hb
    obtain ⟨e, he, _⟩ := pr j b hj
    exact ⟨j, b, e, rfl, hj, he⟩
  refine wpAny_bind (wpAny_holding (wpAny_call_entry PyProof.Rows.slot_list_sort ⟨_, hob, rfl⟩ PyProof.Rows.entry_list_sort
    (SK.plain_sort (s := { s with heap := h2, toks := tk }) (r := fun v => ρ (key2 (TS.midHeap h2 h'.objs.size (as.map Value.ref)) v)) hob (by rw [List.length_map]; omega) (fun h2' Qk hQk => ?_) fun ps out o1 o2 _ => ⟨.none, rfl, ?_⟩) (PyProof.Rows.args_list_sort _)))
  · refine kind_key2 (s := { s with heap := TS.midHeap h2 h'.objs.size (as.map Value.ref), toks := tk }) (ρ := ρ) h2' (by show X.A.units + 1 + 1 < cLine; omega) (fun v hv' => ?_) (fun v hv' u hu' => ?_) Qk hQk
    · obtain ⟨j, b, e, rfl, hj, he⟩ := at_ v hv'
      obtain ⟨e', _, hp'⟩ := pin j b hj
      exact ⟨e'.1, hp'⟩
    · obtain ⟨j, b, e, rfl, hj, he⟩ := at_ v hv'
      obtain ⟨j2, b2, e2, rfl, hj2, he2⟩ := at_ u hu'
      show lt2 (key2 (TS.midHeap h2 h'.objs.size (as.map Value.ref)) (.ref b)) (key2 (TS.midHeap h2 h'.objs.size (as.map Value.ref)) (.ref b2)) = decide (ρ (key2 (TS.midHeap h2 h'.objs.size (as.map Value.ref)) (.ref b)) < ρ (key2 (TS.midHeap h2 h'.objs.size (as.map Value.ref)) (.ref b2)))
      rw [tx j b e hj he, tx j2 b2 e2 hj2 he2]
      exact hρ e (List.mem_of_getElem? he) e2 (List.mem_of_getElem? he2)
  · refine wpAny_pure ⟨_, rfl, ?_⟩
    show EP X pins σ Q (.ref h'.objs.size) { s with heap := sortedHeap h2 h'.objs.size (as.map Value.ref) out, toks := tk }
    obtain ⟨zs, pz, ez⟩ := perm_lift (fun z : Addr × (Str × Str) × V => (Value.ref z.1, Value.ref z.1)) o2 (as.zip ks) (L2.DX.zip_self Value.ref as ks lak)
    have idx : ∀ z ∈ zs, ∃ j : Nat, as[j]? = some z.1 ∧ ks[j]? = some z.2 := by
      intro z' hz'
      obtain ⟨j, hj⟩ := List.mem_iff_getElem?.mp (pz.mem_iff.mp hz')
      exact ⟨j, List.getElem?_zip_eq_some.mp hj⟩
    have hout : out.toList = zs.map fun z => Value.ref z.1 := by
      rw [o1, ← ez, List.map_map]
      all_goals rfl
    have hperm : (zs.map (·.2)).Perm ks := by
      have e := pz.map (·.2)
      have m2 : (as.zip ks).map (·.2) = ks := List.map_snd_zip (by rw [lak]; exact Nat.le_refl _)
      rw [m2] at e
      exact e
    obtain ⟨e', he'⟩ := PyProof.Rows.sortedHeap_at (vs := as.map Value.ref) (out := out) hob
    have hlen : (zs.map fun z => V.ref z.1).length ≤ sizeLine := by
      have e := hperm.length_eq
      rw [List.length_map] at e
      rw [List.length_map, sizeLine_eq]
      omega
    have rv : Vals (zs.map fun z => V.ref z.1) out.toList := by
      rw [hout]
      have z := vals_refs (zs.map (·.1))
      rw [List.map_map, List.map_map] at z
      exact z
    refine ⟨.ref h'.objs.size, upd H h'.objs.size (.lst (zs.map fun z => V.ref z.1)), I1.laid (t' := tk) (fun b u e => ?_) (Nat.le_refl _)
      (show ObjOk X.prog X.w _ _ _ (.lst (zs.map fun z => V.ref z.1)) from ⟨hlen, out.toList, e', rv, by rw [Array.toArray_toList]; exact he'⟩), rfl, q zs _ hperm (fun z hz => ?_) (I1.hok.fresh (Nat.le_refl _))⟩
    · have hb : b < h'.objs.size := Heap.lt_size e
      rw [PyProof.Rows.sortedHeap_old (Nat.ne_of_lt hb) (by rw [← hh2, size_push']; exact Nat.lt_succ_of_lt hb)]
      exact kb b u e
    · obtain ⟨j, j1, j2⟩ := idx z hz
      obtain ⟨e, he, hH⟩ := pr j _ j1
      have ee : e = z.2 := Option.some.inj (he.symm.trans j2)
      rw [← ee]
      exact hH
end

abbrev ent2D (e : (Str × Str) × D) : List L2.Key × D := ([Sum.inr e.1.1, Sum.inr e.1.2], e.2)
abbrev pairD (y : Str × Str) : D := .tup [.str y.1, .str y.2]
theorem rkv_ent2 {K : PySem.W.Frag} {μ : Mem} {H : Hp} : ∀ {ks : List ((Str × Str) × D)} {ws : List (List L2.Key × V)}, RKV K μ H ws (ks.map ent2D) → ∃ ks' : List ((Str × Str) × V), ws = ks'.map ent2 ∧ ks'.map (·.1) = ks.map (·.1)
  | [], _, .nil => ⟨[], rfl, rfl⟩
  | k :: ks, _, .cons (a := w) h t => by
    obtain ⟨ks', e1, e2⟩ := rkv_ent2 t
    exact ⟨(k.1, w.2) :: ks', by rw [List.map_cons, ← e1]; show w :: _ = (([Sum.inr k.1.1, Sum.inr k.1.2] : List L2.Key), w.2) :: _; rw [← show w.1 = ([Sum.inr k.1.1, Sum.inr k.1.2] : List L2.Key) from h.1], by rw [List.map_cons, List.map_cons, e2]⟩
theorem reps_pairs {K : PySem.W.Frag} {μ : Mem} {H : Hp} (sa : Sat K μ H) : ∀ zs : List (Addr × (Str × Str) × V), (∀ z ∈ zs, H z.1 = some (.tup [.str z.2.1.1, .str z.2.1.2])) → Reps K μ H (zs.map fun z => V.ref z.1) ((zs.map (·.2.1)).map pairD)
  | [], _ => .nil
  | z :: zs, h => by
    have hz := h z (List.mem_cons_self ..)
    exact .cons (.tup hz (sa.tup hz) (.cons (.str _) (.cons (.str _) .nil))) (reps_pairs sa zs fun y hy => h y (List.mem_cons_of_mem _ hy))
section
variable {X : Cx} {μ : Mem} {k : D → Mem → Prop}
theorem cd_sortedT {K : PySem.W.Frag} {p : Addr} {ks : List ((Str × Str) × D)} (ρ : Str × Str → Int) (hc : X.calm = true) (hu : X.A.units + 64 < cLine) (hp : μ p = some (.dT (ks.map ent2D))) (hz : ks.length < 64)
    (hρ : ∀ e ∈ ks.map (·.1), ∀ f ∈ ks.map (·.1), lt2 e f = decide (ρ e < ρ f)) (h : ∀ ys : List (Str × Str), ys.Perm (ks.map (·.1)) → k (.lst (ys.map pairD)) μ) :
    CD K (WC X (.builtin "sorted")) [.ref p] μ k := cd_of (call_sortedT hc hu) fun vs H Q a sa q => by
  obtain ⟨v, rfl, r⟩ := reps1 a
  obtain ⟨ws, h1, h2⟩ := sa p _ hp
  obtain ⟨ks', e1, e2⟩ := rkv_ent2 h2
  subst e1
  have hl : ks'.length = ks.length := by have e := congrArg List.length e2; rwa [List.length_map, List.length_map] at e
  refine ⟨p, ks', ρ, by rw [r.ref_eq], h1, by rw [hl]; exact hz, fun e he f hf => hρ _ (by rw [← e2]; exact List.mem_map_of_mem he) _ (by rw [← e2]; exact List.mem_map_of_mem hf), fun zs l hy1 hy2 n => ?_⟩
  refine q _ _ μ _ (h (zs.map (·.2.1)) ?_) (Keep.new n) (sa.new n) (.lst upd_same (sa.fresh n) ((reps_pairs sa zs hy2).keep (Keep.new n)))
  have e3 := hy1.map (·.1)
  rw [List.map_map, e2] at e3
  exact e3
end
/-- the places' ranks -/
def rho6 (p : Str × Str) : Int := (if p.1 = "east" then 0 else 3) + (if p.2 = "ann" then 0 else if p.2 = "bob" then 1 else 2)
def places : List (Str × Str) := [("east", "ann"), ("east", "bob"), ("east", "cy"), ("west", "ann"), ("west", "bob"), ("west", "cy")]
theorem rho6_ok : ∀ e ∈ places, ∀ f ∈ places, lt2 e f = decide (rho6 e < rho6 f) := by decide +kernel
end DL
set_option Elab.async false
set_option linter.all false
set_option maxRecDepth 100000
set_option maxHeartbeats 2000000
/-! Data layer, part 9: rules where values are not known ahead. -/
namespace DL
open PySem PySem.Spec PyProof.Rows L2
section
variable {X : Cx} {a b e it : Expr} {δ : DS} {μ μ1 μ2 : Mem} {k : D → Mem → Prop} {x y : D} {pos : Pos}
/-- a list of the memory stands still from now on, or it stays in the memory -/
theorem ev_fz0 (h : EV X e δ μ fun d μ1 => k d μ1 ∨ ∃ p ds μ2, d = .ref p ∧ μ1 p = some (.lst ds) ∧ Sub μ2 μ1 ∧ μ2 p = none ∧ k (.lst ds) μ2) : EV X e δ μ k := fun σ H Q sr sa q =>
  h σ H Q sr sa fun v d μ1 H1 h1 kp sa1 r => by
    rcases h1 with h1 | ⟨p, ds, μ2, e1, e2, s, e3, hk⟩
    · exact q v d μ1 H1 h1 kp sa1 r
    · subst e1
      obtain ⟨vs, h1, r1⟩ := sa1 p _ e2
      have hv := r.ref_eq
      subst hv
      exact q _ _ μ2 H1 hk (kp.trans (Keep.sub s)) (sa1.sub s) (.lst h1 e3 (r1.keep (Keep.sub s)))
theorem ev_ix0 (h : EV X a δ μ fun x μ1 => EV X b δ μ1 fun y μ2 => RD X.K (WX X) x y μ2 k) (hs : PlainIx b := by exact fun _ _ => rfl) : EV X (.Subscript a b pos) δ μ k := fun σ H Q sr sa q =>
  ⟨_, pe_ix ix_wx (pe_we a) (pe_we b) hs, h σ H _ sr sa fun v x' μ' H1 h1 kp1 sa1 r1 => h1 σ H1 _ (sr.keep kp1) sa1 fun u y' μ'' H2 h2 kp2 sa2 r2 => h2 v u H2 Q (r1.keep kp2) r2 sa2 (q.keep (kp1.trans kp2))⟩
theorem ev_binN {op : Operator} (h : EV X a δ μ fun x μ1 => EV X b δ μ1 fun y μ2 => RD X.K (WO X (binaryOp op)) x y μ2 k) : EV X (.BinOp a op b pos) δ μ k := ev_bin0 (h.mono fun _ _ h1 => h1.mono fun _ _ h2 μ3 e => by rw [e]; exact h2)
theorem tv_cmpN {op : CmpOp} {kb : Bool → Mem → Prop} (h : EV X a δ μ fun x μ1 => EV X b δ μ1 fun y μ2 => RD X.K (WO X (compareOp op)) x y μ2 fun d μ3 => ∃ c, d = .bl c ∧ kb c μ3) (hm : behindInMarks op b = false := by first | exact nomark _ | rfl) : TV X (.Compare a [op] [b] pos) δ μ kb := fun σ H Q sr sa q =>
  ⟨_, pt_cmpR (op_wo _) (pe_we a) (pe_we b) hm, h σ H _ sr sa fun v x' μ' H1 h1 kp1 sa1 r1 => h1 σ H1 _ (sr.keep kp1) sa1 fun u y' μ'' H2 h2 kp2 sa2 r2 =>
    h2 v u H2 _ (r1.keep kp2) r2 sa2 fun w d μ3 H3 ⟨c, e5, hk⟩ kp3 sa3 r3 => by subst e5; exact ⟨c, r3.bl_eq, q c μ3 H3 hk ((kp1.trans kp2).trans kp3) sa3⟩⟩
theorem iv_range0 {tg : Expr} {p : Pos} {kk : List D → (Mem → Prop) → Mem → Prop} (hm : X.mg "range" = none) (ha : EV X e δ μ fun d μ1 => ∃ n : Int, d = .int n ∧ -(2 ^ 62) ≤ n ∧ n < 2 ^ 62 ∧ kk (rgD n.toNat) (fun _ => True) μ1) (hg : Gl X "range" := by rfl) (hs : starEach [e] X.env = [(false, eval e X.env)] := by rfl) :
    IV0 X tg (.Call (.Name "range" p) [e] [] pos) δ μ kk := fun σ H R sr sa q => by
  refine ⟨_, pi_range1 hg hm (pa_cons (pe_we e) pa_nil hs) hs, ha σ H _ sr sa fun v d μ' H1 ⟨n, e1, h0, h1, hk⟩ kp1 sa1 r1 => ?_⟩
  subst e1
  exact ⟨n, by rw [r1.int_eq], h0, h1, q _ _ _ _ H1 hk kp1 sa1 yl_rng⟩
/-- while, by a relation with a measure -/
theorem s1_whileR {c : Expr} {body : List Stmt} {kd : DE} (hp : PassesOwn (model X.prog X.w) X.A X.env X.xe) (I : Nat → DS → Mem → Prop) (m0 : Nat) (h0 : I m0 δ μ)
    (hs : ∀ m δ' μ', I m δ' μ' → TV X c δ' μ' fun t μ2 => (t = true → SV X body δ' μ2 { nx := fun δ3 μ3 => ∃ m', m' < m ∧ I m' δ3 μ3, rt := kd.rt, bk := kd.nx, ct := fun δ3 μ3 => ∃ m', m' < m ∧ I m' δ3 μ3 }) ∧ (t = false → kd.nx δ' μ2)) : S1 X (.While c body [] pos) δ μ kd := fun σ H E sr sa q => by
  refine ⟨_, ps_while hp (pt_wt c) (pss_wss body), fun m σ' H' => ∃ δ' μ', I m δ' μ' ∧ Keep μ H μ' H' ∧ Sat X.K μ' H' ∧ SR X.K μ' H' σ' δ', ⟨m0, δ, μ, h0, Keep.refl, sa, sr⟩, ?_⟩
  rintro m σ' H' ⟨δ', μ', hI, kp, sa', sr'⟩
  refine hs m δ' μ' hI σ' H' _ sr' sa' fun t μ2 H2 hk kp2 sa2 => ?_
  cases t with
  | true =>
    rw [if_pos rfl]
    refine ⟨fun σ3 H3 => ∃ m', m' < m ∧ ∃ δ3 μ3, I m' δ3 μ3 ∧ Keep μ H μ3 H3 ∧ Sat X.K μ3 H3 ∧ SR X.K μ3 H3 σ3 δ3, fun σ3 H3 ⟨m', a1, z⟩ => ⟨m', a1, z⟩, ?_⟩
    exact hk.1 rfl σ' H2 _ (sr'.keep kp2) sa2 ⟨fun σ4 δ4 μ4 H4 ⟨m', h1, h4⟩ kp4 sa4 sr4 => ⟨m', h1, δ4, μ4, h4, (kp.trans kp2).trans kp4, sa4, sr4⟩, q.rt.keep (kp.trans kp2), q.nx.keep (kp.trans kp2), fun σ4 δ4 μ4 H4 ⟨m', h1, h4⟩ kp4 sa4 sr4 => ⟨m', h1, δ4, μ4, h4, (kp.trans kp2).trans kp4, sa4, sr4⟩⟩
  | false =>
    rw [if_neg Bool.false_ne_true]
    exact q.nx σ' δ' μ2 H2 (hk.2 rfl) (kp.trans kp2) sa2 (sr'.keep kp2)
end
section
variable {X : Cx} {δ : DS} {μ : Mem} {elt it : Expr} {ifs : List Expr} {scope : Scope} {own : List (Str × Nat)} {pos px : Pos} {x : Str}
/-- [elt for x in it if ..], nothing changed on the way, what is walked not known ahead -/
theorem ev_lcP0 (j : Nat) {k : D → Mem → Prop}
    (hi : IV0 X (.Name x px) it δ μ fun ds stay μ1 => ds.length ≤ 100000 ∧ (∀ μ', Sub μ1 μ' → stay μ') ∧ ∃ (f : Nat → D → Bool) (v : Nat → D → D),
      (∀ i d μ' s H C cl fp, ds[i]? = some d → Sub μ1 μ' → TsV (X.blk s H scope (compEnvC scope cl C X.env) fp) ifs ((wipeD δ (own.map (·.2))).set j (some d)) μ' (IsB (f i d) μ')) ∧
      (∀ i d μ' s H C cl fp, ds[i]? = some d → Sub μ1 μ' → f i d = true → EV (X.blk s H scope (compEnvC scope cl C X.env) fp) elt ((wipeD δ (own.map (·.2))).set j (some d)) μ' (Is (v i d) μ')) ∧ NewL μ1 (kept ds f v) k)
    {Ns ps : List Str} {sc : Scope} (S : FnScope Ns ps sc) (hc : X.calm = true := by rfl) (eN : X.N = Ns := by rfl) (eS : X.env.scope = sc := by rfl) (hok : blkC Ns sc scope own = true := by decide +kernel) (hj : j ∈ own.map (·.2) := by decide)
    (hg : ∀ (s : Shared) (H : Hp) (C : Addr) (cl : List (Str × Addr)) (fp : List Addr), X.N.Nodup → PG (X.blk s H scope (compEnvC scope cl C X.env) fp) (.Name x px) (gName j) := by exact fun _ _ _ _ _ nd => pg_name nd rfl (Or.inl rfl))
    (hs : ∀ x, foldedSetIterable it X.env x = pure x := by intro _; rfl) : EV X (.ListComp elt [⟨.Name x px, it, ifs, 0⟩] scope pos) δ μ k := by
  refine ev_fz0 ((ev_lc (own := own) (k := fun d μ' => ∃ p μ1 acc, d = .ref p ∧ μ1 p = none ∧ μ' = μ1.put p (.lst acc) ∧ NewL μ1 acc k) j ?_ S hc eN eS hok hj hg hs).mono fun d μ' ⟨p, μ1, acc, e1, e2, e3, hn⟩ => ?_)
  · intro σ H R sr sa q
    refine hi σ H R sr sa fun ds stay μ1 J H1 ⟨hlen, hst, f, v, ht, he, hk⟩ kp1 sa1 y => q ds stay μ1 J H1 ⟨hlen, fun p np => ⟨fun i acc μ' => μ' = μ1.put p (.lst acc) ∧ acc = keptN i ds f v, ⟨rfl, keptN_zero ds f v⟩,
      fun i acc μ' ⟨e1, e2⟩ => ⟨hst _ (by rw [e1]; exact sub_put np), by rw [e1, Mem.put_same]⟩,
      fun i d acc μ' s H C cl fp hd ⟨e1, e2⟩ => ?_, fun acc μ' ⟨e1, e2⟩ => ⟨p, μ1, acc, rfl, np, e1, by rw [e2, keptN_all]; exact hk⟩⟩⟩ kp1 sa1 y
    subst e1
    intro σ2 H2 Q2 sr2 sa2 q2
    refine ht i d _ s H C cl fp hd (sub_put np) σ2 H2 Q2 sr2 sa2 fun b μ2 H3 ⟨hb1, hb2⟩ kp sa3 => q2 b μ2 H3 ⟨fun hb s H C cl fp => ?_, fun hb => ?_⟩ kp sa3
    · subst hb1 hb2
      refine (he i d _ s H C cl fp hd (sub_put np) hb).mono fun y μ3 ⟨e3, e4⟩ => ?_
      subst e3 e4
      exact ⟨Mem.put_same, Mem.put_put, by rw [e2, keptN_yes hd hb]⟩
    · subst hb1 hb2
      exact ⟨rfl, by rw [e2, keptN_no hd hb]⟩
  · subst e1 e3
    rcases hn with hn | hn
    · exact .inr ⟨p, acc, μ1, rfl, Mem.put_same, sub_put e2, e2, hn⟩
    · exact .inl (hn p e2)
end
/-! ''.join -/
section
variable {X : Cx} {o e : Expr} {δ : DS} {μ μ1 : Mem} {k : D → Mem → Prop} {apos pos : Pos}
theorem ev_join (sep : Str) (ho : EV X o δ μ (Is (.str sep) μ1)) (he : EV X e δ μ1 fun d μ2 => ∃ ys : List Str, d = .lst (ys.map .str) ∧ (ys.map (·.length)).sum + ys.length * sep.length ≤ 16777216 ∧ k (.str (Txt.join sep ys)) μ2)
    (hs : starEach [e] X.env = [(false, eval e X.env)] := by rfl) (hbase : attributeBase o "join" X.env (eval o X.env) = eval o X.env := by rfl) (hline : (apos.endLine == pos.line) = true := by rfl) :
    EV X (.Call (.Attribute o "join" apos) [e] [] pos) δ μ k := fun σ H Q sr sa q => by
  refine ⟨_, pe_join (pe_we o) (pe_we e) hs hbase hline, ho σ H _ sr sa fun v d μ' H1 ⟨e1, e2⟩ kp1 sa1 r1 => ?_⟩
  subst e1 e2
  have ev := r1.str_eq
  subst ev
  refine ⟨⟨sep, rfl⟩, he σ H1 _ (sr.keep kp1) sa1 fun w d2 μ2 H2 ⟨ys, e3, hz, hk⟩ kp2 sa2 r2 => ?_⟩
  subst e3
  obtain ⟨p, vs, rfl, hp, mp, r3⟩ := r2.lst_at
  rw [r3.strs] at hp
  exact ⟨sep, p, ys, rfl, rfl, .inl (SqL.of hp), hz, q _ _ μ2 H2 hk (kp1.trans kp2) sa2 (.str _)⟩
end
/-! a dict display of two texts -/
section
variable {X : Cx} {e1 e2 : Expr} {δ : DS} {μ : Mem} {k : D → Mem → Prop} {pos p1 p2 : Pos} {j1 j2 : Nat}
theorem ev_disp2 (x1 x2 : Str) (hne : x1 ≠ x2) (h : ∀ p, μ p = none → EV X e1 δ (μ.put p (.dK [])) fun d1 μ1 => EV X e2 δ μ1 fun d2 μ2 => μ2 p = some (.dK []) ∧ k (.ref p) (μ2.put p (.dK [(Sum.inr x1, d1), (Sum.inr x2, d2)]))) :
    EV X (.Dict [some (.Constant (.str x1) j1 p1), some (.Constant (.str x2) j2 p2)] [e1, e2] pos) δ μ k := fun σ H Q sr sa q => by
  refine ⟨_, pe_disp (pps_cons pe_str (pe_we e1) (pps_cons pe_str (pe_we e2) pps_nil)) rfl rfl (by simp) (by simp), fun p n => ?_⟩
  have k0 : Keep μ H (μ.put p (.dK [])) (upd H p (.dK [])) := Keep.newM n
  have s0 : Sat X.K (μ.put p (.dK [])) (upd H p (.dK [])) := sa.newM n ⟨[], upd_same, .nil⟩
  refine h p (sa.fresh n) σ _ _ (sr.keep k0) s0 fun v1 d1 μ1 H1 h1 kp1 sa1 r1 => ?_
  refine h1 σ H1 _ ((sr.keep k0).keep kp1) sa1 fun v2 d2 μ2 H2 ⟨hp, hk⟩ kp2 sa2 r2 => ?_
  obtain ⟨ws, hw, hr⟩ := sa2 p _ hp
  cases hr
  refine ⟨hw, [(Sum.inr x1, v1), (Sum.inr x2, v2)], rfl, by simp, ?_⟩
  have em : mergeK [] [((Sum.inr x1 : Key), v1), (Sum.inr x2, v2)] = [(Sum.inr x1, v1), (Sum.inr x2, v2)] := by
    show putK (putK [] (Sum.inr x1) v1) (Sum.inr x2) v2 = _
    have a1 : putK ([] : List (Key × V)) (Sum.inr x1) v1 = [(Sum.inr x1, v1)] := rfl
    rw [a1]
    unfold putK
    have a2 : ([((Sum.inr x1 : Key), v1)].any fun kv => decide (kv.1 = Sum.inr x2)) = false := by simp [hne]
    rw [a2]
    rfl
  rw [em]
  have k3 : Keep μ2 H2 (μ2.put p (.dK [(Sum.inr x1, d1), (Sum.inr x2, d2)])) (upd H2 p (.dK [(Sum.inr x1, v1), (Sum.inr x2, v2)])) := Keep.setM hp
  exact q _ _ _ _ hk (((k0.trans kp1).trans kp2).trans k3) (sa2.setM hp ⟨_, upd_same, .cons ⟨rfl, (r1.keep kp2).keep k3⟩ (.cons ⟨rfl, r2.keep k3⟩ .nil)⟩) (.ref p)
end
/-! a def whose code object is known -/
section
variable {P : Program} {w : World} {K : PySem.W.Frag} {mg : Str → Option Value} {base : Heap}
theorem fn_dlC {x qual : Str} {st : Stmt} {f c : Addr} {fd : FuncData} {N ps : List Str} {j : Nat} {pd : PD} (F : FunD K x qual (defArgs st) (defBody st) (defScope st) [] [] f fd) (hc : fd.code = .ref c) (S : FnScope N ps (defScope st)) (len : ∀ ds μ k, pd ds μ k → ds.length = ps.length)
    (h : ∀ (A : Around) (outer : List Env) (s : Shared) (H : Hp) (E : XK), Room j (A.deeper (envOfC qual (defScope st) s.heap.objs.size f (.ref c))) → ∀ ds μ k, pd ds μ k →
      SV (cxOf CX0 P w K mg base N qual (defScope st) f (.ref c) A outer s H E).nox (defBody st) (startD N ds) μ { nx := fun _ μ' => k .non μ', rt := k }) : FnOk P w K mg base CX0 (j + 1) f fd ps (dsp K pd) := by
  obtain ⟨oc, od, dV, kV, doc, pm, an, cdv, ct, osl, rfl, lk, hcd, _, _⟩ := F.ex
  have e : cdv = .ref c := hc
  subst e
  refine fn_of lk hcd S (fun vs H Q E q => ?_) (fun A outer s H vs Q E hr q => ?_)
  · obtain ⟨ds, μ, k, r, _, p, _⟩ := q
    rw [r.length]
    exact len ds μ k p
  · obtain ⟨ds, μ, k, r, sa, p, q⟩ := q
    obtain ⟨t, h1, h2⟩ := h A outer s H E hr ds μ k p (start N vs) H { nx := fun _ H' => Q .non H', rt := Q } (SR.start r) sa
      ⟨fun σ' δ' μ' H' a b c _ => q _ _ μ' H' a b c .non, q, fun _ _ _ _ a => a.elim, fun _ _ _ _ a => a.elim⟩
    exact ⟨t, h1.nox, h2⟩
end
end DL
set_option Elab.async false
set_option linter.all false
set_option maxRecDepth 100000
set_option maxHeartbeats 2000000
/-! Data layer, part 10: statements and the memory. -/
namespace DL
open PySem PySem.Spec PyProof.Rows L2
section
variable {X : Cx} {δ : DS} {μ μ1 μ2 : Mem} {k : DE} {ss : List Stmt}
theorem sv_drop (hs : Sub μ2 μ) (h : SV X ss δ μ2 k) : SV X ss δ μ k := fun σ H E sr sa q => h σ H E (sr.keep (Keep.sub hs)) (sa.sub hs) (q.keep (Keep.sub hs))
theorem sv_freeze (i : Nat) {p : Addr} {ds : List D} (hd : δ[i]? = some (some (.ref p))) (hp : μ p = some (.lst ds)) (hs : Sub μ2 μ) (hp2 : μ2 p = none) (h : SV X ss (δ.set i (some (.lst ds))) μ2 k) : SV X ss δ μ k := fun σ H E sr sa q => by
  refine h σ H E ?_ (sa.sub hs) (q.keep (Keep.sub hs))
  obtain ⟨vs, h1, r1⟩ := sa p _ hp
  obtain ⟨v, hv, r⟩ := sr.at_ i _ hd
  have sr2 := sr.keep (Keep.sub hs)
  refine ⟨by rw [List.length_set]; exact sr2.len, fun j d q => ?_⟩
  by_cases hj : i = j
  · subst hj
    have hi : i < δ.length := by
      have := (List.getElem?_eq_some_iff.mp q).1
      rwa [List.length_set] at this
    rw [List.getElem?_set_self hi] at q
    cases q
    refine ⟨v, hv, ?_⟩
    rw [r.ref_eq]
    exact .lst h1 hp2 (r1.keep (Keep.sub hs))
  · rw [List.getElem?_set_ne hj] at q
    exact sr2.at_ j d q
end
section
variable {X : Cx} {δ : DS} {μ μ1 : Mem} {elt it : Expr} {ifs : List Expr} {scope : Scope} {own : List (Str × Nat)} {pos px : Pos} {x : Str}
theorem LC.mono {j : Nat} {k k' : D → Mem → Prop} (h : LC X own j x px elt it ifs scope δ μ k) (w : ∀ d μ', k d μ' → k' d μ') : LC X own j x px elt it ifs scope δ μ k' := fun σ H R sr sa q =>
  h σ H R sr sa fun ds stay μ1 J H1 ⟨hlen, hk⟩ => q ds stay μ1 J H1 ⟨hlen, fun p np => by
    obtain ⟨I, h0, hst, hstep, hend⟩ := hk p np
    exact ⟨I, h0, hst, hstep, fun acc μ' hI => w _ _ (hend acc μ' hI)⟩⟩
/-- y = [elt for x in it if ..] on one line, nothing changed on the way -/
theorem s1_setLcP (i j : Nat) {y : Str} {py spos : Pos} {kd : DE} {ds : List D} {stay : Mem → Prop} (hi : IV X (.Name x px) it δ μ ds stay μ1) (hlen : ds.length ≤ 100000) (f : Nat → D → Bool) (v : Nat → D → D) (hst : ∀ μ', Sub μ1 μ' → stay μ')
    (ht : ∀ i d μ' s H C cl fp, ds[i]? = some d → Sub μ1 μ' → TsV (X.blk s H scope (compEnvC scope cl C X.env) fp) ifs ((wipeD δ (own.map (·.2))).set j (some d)) μ' (IsB (f i d) μ'))
    (he : ∀ i d μ' s H C cl fp, ds[i]? = some d → Sub μ1 μ' → f i d = true → EV (X.blk s H scope (compEnvC scope cl C X.env) fp) elt ((wipeD δ (own.map (·.2))).set j (some d)) μ' (Is (v i d) μ'))
    (hk : ∀ p, μ1 p = none → kd.nx (δ.set i (some (.ref p))) (μ1.put p (.lst (kept ds f v)))) {Ns ps : List Str} {sc : Scope} (S : FnScope Ns ps sc) (hsw : swapsWith (.ListComp elt [⟨.Name x px, it, ifs, 0⟩] scope pos) (some (.Name y py)) spos.line X.env = pure true) (hc : X.calm = true := by rfl) (eN : X.N = Ns := by rfl) (eS : X.env.scope = sc := by rfl)
    (hy : X.N[i]? = some y := by rfl) (hyl : X.env.scope.names.lookup y = some .local := by rfl) (hok : blkC Ns sc scope own = true := by decide +kernel) (hj : j ∈ own.map (·.2) := by decide)
    (hg : ∀ (s : Shared) (H : Hp) (C : Addr) (cl : List (Str × Addr)) (fp : List Addr), X.N.Nodup → PG (X.blk s H scope (compEnvC scope cl C X.env) fp) (.Name x px) (gName j) := by exact fun _ _ _ _ _ nd => pg_name nd rfl (Or.inl rfl))
    (hs : ∀ x, foldedSetIterable it X.env x = pure x := by intro _; rfl) : S1 X (.Assign [.Name y py] (.ListComp elt [⟨.Name x px, it, ifs, 0⟩] scope pos) spos) δ μ kd :=
  s1_setLc i j ((lc_pure (own := own) (k := fun _ _ => True) j hi hlen f v hst ht he (.inl trivial)).mono fun d μ' ⟨p, e1, e2, e3⟩ => by rw [e1, e3]; exact hk p e2) S hsw hc eN eS hy hyl hok hj hg hs
end
/-- xs.append(e), e not known ahead -/
theorem ev_app0 {X : Cx} {δ : DS} {μ μ1 : Mem} {k : D → Mem → Prop} {o e : Expr} {p : Addr} {ds0 : List D} {apos pos : Pos} (ho : EV X o δ μ (Is (.ref p) μ1)) (hp1 : μ1 p = some (.lst ds0)) (he : EV X e δ μ1 fun d μ2 => ∃ ds, μ2 p = some (.lst ds) ∧ ds.length < 100000 ∧ k .non (μ2.put p (.lst (ds ++ [d]))))
    (hbase : attributeBase o "append" X.env (eval o X.env) = eval o X.env := by rfl)
    (hfew : ((backTo pos (starEach [e] X.env)).all (fun x => !x.1) && (backToKw pos (keywordEach [] X.env)).all (fun x => x.1.isSome)
      && decide (([e] : List Expr).length + ([] : List Keyword).length + (if ([] : List Keyword).isEmpty then 0 else 1) < 30)) = true := by rfl)
    (hline : (apos.endLine == pos.line) = true := by rfl) (hs : starEach [e] X.env = (false, eval e X.env) :: starEach [] X.env := by rfl) :
    EV X (.Call (.Attribute o "append" apos) [e] [] pos) δ μ k := fun σ H Q sr sa q => by
  refine ⟨_, pe_bm PySem.F.plainAttrs_list PySem.F.slot_list_append PySem.F.type_list_append mt_append (pe_we o) (pa_cons (pe_we e) pa_nil hs) hbase hfew hline hs rfl, ho σ H _ sr sa fun v d' μ' H1 ⟨e1, e2⟩ kp1 sa1 r1 => ?_⟩
  subst e1 e2
  obtain ⟨vs0, h0, _⟩ := sa1 p _ hp1
  have hv := r1.ref_eq
  subst hv
  refine ⟨.inl ⟨rfl, vs0, SqL.of h0⟩, he σ H1 _ (sr.keep kp1) sa1 fun u d2 μ2 H2 ⟨ds, hp, hz, hk⟩ kp2 sa2 r2 => ?_⟩
  obtain ⟨vs, h1, h2⟩ := sa2 p _ hp
  refine ⟨p, vs, u, rfl, rfl, h1, by rw [h2.length]; exact Nat.lt_of_lt_of_le hz (by decide), ?_⟩
  exact q _ _ _ _ hk ((kp1.trans kp2).trans (Keep.setM hp)) (sa2.setM hp ⟨_, upd_same, (h2.append (.cons r2 .nil)).keep (Keep.setM hp)⟩) .non
end DL
set_option Elab.async false
set_option linter.all false
set_option maxRecDepth 100000
/-! The text by places; what the module's names are. -/
namespace Mw
open PySem PySem.Spec PyProof.Rows L2 DL
def top (i : Nat) : Stmt := PySem.Challenge.pw_mintlaw_k63_whole_only_forgeries_gain.main.body.getD i (.Pass ⟨0, 0, 0, 0⟩)
/-- the built-in names that the module leaves as they are -/
structure Bt (mg : Str → Option Value) : Prop where
  abs : mg "abs" = none
  all : mg "all" = none
  any : mg "any" = none
  bool : mg "bool" = none
  int : mg "int" = none
  isi : mg "isinstance" = none
  len : mg "len" = none
  max : mg "max" = none
  min : mg "min" = none
  range : mg "range" = none
  sorted : mg "sorted" = none
  sum : mg "sum" = none
  tuple : mg "tuple" = none
/-! ### lists of ints -/
abbrev itup (xs : List Int) : D := .tup (xs.map .int)
theorem it_get {xs : List Int} {i : Nat} {z : Int} (h : xs[i]? = some z) : atI (xs.map D.int) (i : Int) = some (.int z) := atI_nat (by rw [List.getElem?_map, h]; rfl)
theorem get_of {xs : List Int} {i : Nat} (h : i < xs.length) : xs[i]? = some (xs.getD i 0) := by
  rw [List.getD_eq_getElem?_getD, List.getElem?_eq_getElem h]
  rfl
theorem it_at {xs : List Int} {i : Nat} (h : i < xs.length) : atI (xs.map D.int) (i : Int) = some (.int (xs.getD i 0)) := it_get (get_of h)
theorem kept_rg (n : Nat) (v : Nat → D → D) : kept (rgD n) (fun _ _ => true) v = (List.range n).map fun i => v i (.int (i : Nat)) := by
  rw [kept_true, rgD_len]
  apply List.ext_getElem
  · simp [rgD]
  · intro i h1 h2
    simp [rgD]
theorem rg_lt {n i : Nat} {d : D} (h : (rgD n)[i]? = some d) : i < n ∧ d = .int (i : Nat) := by
  have hlt : i < n := by
    have := (List.getElem?_eq_some_iff.mp h).1
    rwa [rgD_len] at this
  rw [rgD_get hlt] at h
  cases h
  exact ⟨hlt, rfl⟩
theorem kept_map {α : Type} (ds : List D) (v : Nat → D → D) (xs : List α) (g : α → D) (hl : ds.length = xs.length) (h : ∀ (i : Nat) d x, ds[i]? = some d → xs[i]? = some x → v i d = g x) : kept ds (fun _ _ => true) v = xs.map g := by
  rw [kept_true]
  apply List.ext_getElem
  · simp [hl]
  · intro i h1 h2
    have hd : i < ds.length := by simp at h1; exact h1
    have hx : i < xs.length := by rw [← hl]; exact hd
    simp only [List.getElem_zipWith, List.getElem_range, List.getElem_map]
    exact h i _ _ (List.getElem?_eq_getElem hd) (List.getElem?_eq_getElem hx)
end Mw
set_option Elab.async false
set_option linter.all false
set_option maxRecDepth 100000
set_option maxHeartbeats 4000000
namespace Mw
open PySem PySem.Spec PyProof.Rows L2 DL
abbrev sPlus : Stmt := top 5
theorem sc_plus : FnScope ["stock", "other", "k"] ["stock", "other"] (defScope sPlus) := ⟨rfl, rfl, rfl, by decide +kernel, rfl, by decide +kernel, by decide +kernel⟩
def pdPlus : PD := fun ds μ k => ∃ xs ys : List Int, ds = [itup xs, itup ys] ∧ xs.length ≤ ys.length ∧ xs.length ≤ 100 ∧ k (itup ((List.range xs.length).map fun i => xs.getD i 0 + ys.getD i 0)) μ
section
variable {P : Program} {w : World} {K : PySem.W.Frag} {mg : Str → Option Value} {base : Heap} {f : Addr} {fd : FuncData}
theorem ok_plus (F : FunD K "plus" "plus" (defArgs sPlus) (defBody sPlus) (defScope sPlus) [] [] f fd) (B : Bt mg) : FnOk P w K mg base CX0 1 f fd ["stock", "other"] (dsp K pdPlus) := by
  refine fn_dl F sc_plus (fun ds μ k h => by obtain ⟨xs, ys, rfl, _⟩ := h; rfl) fun cdv A outer s H E hr ds μ k h => ?_
  obtain ⟨xs, ys, rfl, h1, h2, hk⟩ := h
  have nd := sc_plus.nd
  refine sv_one (s1_ret (ev_callT0 (av_cons0 ((ev_lcP (own := [("k", 2)]) (k := Is (.lst (((List.range xs.length).map fun i => xs.getD i 0 + ys.getD i 0).map .int)) μ) 2
    (iv_range B.range (ev_callB (av_cons (ev_var 0 rfl) av_nil) (cd_len (.inl rfl) ⟨rfl, rfl⟩) B.len PySem.boot_len) (by simp; omega) (by omega)) (by simp; omega) (fun _ _ => true) (fun i _ => .int (xs.getD i 0 + ys.getD i 0)) (fun _ _ => trivial)
    (fun i d μ' s H C cl fp hd _ => ts_nil ⟨rfl, rfl⟩) (fun i d μ' s H C cl fp hd _ _ => ?_) (.inl ⟨?_, rfl⟩) sc_plus).is (av_nil0 (cd_tuple (.inr .l) hk)))) B.tuple (by decide +kernel)))
  · obtain ⟨hi, rfl⟩ := rg_lt hd
    simp at hi
    exact ev_bin (ev_ix (ev_var 0 rfl) (ev_var 2 rfl) (rd_ixT rfl (it_at hi) ⟨rfl, rfl⟩)) (ev_ix (ev_var 1 rfl) (ev_var 2 rfl) (rd_ixT rfl (it_at (by omega)) ⟨rfl, rfl⟩)) (rd_add ⟨rfl, rfl⟩)
  · simp [kept_rg]
end
end Mw
set_option linter.all false
/-! Plain Lean: the determinant, multilinear and alternating. -/
namespace Mx
abbrev Vec := Nat → Int
/-- sum over i < n -/
def S : Nat → (Nat → Int) → Int
  | 0, _ => 0
  | n + 1, f => S n f + f n
theorem S_congr {n : Nat} {f g : Nat → Int} (h : ∀ i, i < n → f i = g i) : S n f = S n g := by
  induction n with
  | zero => rfl
  | succ n ih => simp only [S]; rw [ih fun i hi => h i (by omega), h n (by omega)]
theorem S_add (n : Nat) (f g : Nat → Int) : S n (fun i => f i + g i) = S n f + S n g := by
  induction n with
  | zero => rfl
  | succ n ih => simp only [S]; rw [ih]; omega
theorem S_mul (n : Nat) (c : Int) (f : Nat → Int) : S n (fun i => c * f i) = c * S n f := by
  induction n with
  | zero => simp [S]
  | succ n ih => simp only [S]; rw [ih, Int.mul_add]
theorem S_zero {n : Nat} {f : Nat → Int} (h : ∀ i, i < n → f i = 0) : S n f = 0 := by
  induction n with
  | zero => rfl
  | succ n ih => simp only [S]; rw [ih fun i hi => h i (by omega), h n (by omega)]; rfl
theorem S_one {n p : Nat} {f : Nat → Int} (hp : p < n) (h : ∀ i, i < n → i ≠ p → f i = 0) : S n f = f p := by
  induction n with
  | zero => omega
  | succ n ih =>
    simp only [S]
    by_cases e : p = n
    · subst e
      rw [S_zero fun i hi => h i (by omega) (by omega)]; omega
    · rw [ih (by omega) fun i hi hne => h i (by omega) hne, h n (by omega) (by omega)]; omega
theorem S_two {n p q : Nat} {f : Nat → Int} (hp : p < n) (hq : q < n) (hpq : p ≠ q) (h : ∀ i, i < n → i ≠ p → i ≠ q → f i = 0) : S n f = f p + f q := by
  induction n with
  | zero => omega
  | succ n ih =>
    simp only [S]
    by_cases e : p = n
    · subst e
      rw [S_one (p := q) (by omega) fun i hi hne => h i (by omega) (by omega) hne]; omega
    · by_cases e2 : q = n
      · subst e2
        rw [S_one (p := p) (by omega) fun i hi hne => h i (by omega) hne (by omega)]
      · rw [ih (by omega) (by omega) fun i hi h1 h2 => h i (by omega) h1 h2, h n (by omega) (by omega) (by omega)]; omega
theorem S_nonneg {n : Nat} {f : Nat → Int} (h : ∀ i, i < n → 0 ≤ f i) : 0 ≤ S n f := by
  induction n with
  | zero => exact Int.le_refl _
  | succ n ih => simp only [S]; have := ih fun i hi => h i (by omega); have := h n (by omega); omega
theorem S_le {n : Nat} {f g : Nat → Int} (h : ∀ i, i < n → f i ≤ g i) : S n f ≤ S n g := by
  induction n with
  | zero => exact Int.le_refl _
  | succ n ih => simp only [S]; have := ih fun i hi => h i (by omega); have := h n (by omega); omega

def skip (k i : Nat) : Nat := if i < k then i else i + 1
/-- (-1)^k -/
def sg : Nat → Int
  | 0 => 1
  | k + 1 => - sg k
/-- the determinant of the columns b 0 .. b (N-1) -/
def det : Nat → (Nat → Vec) → Int
  | 0, _ => 1
  | N + 1, b => S (N + 1) fun k => sg k * b k 0 * det N fun i m => b (skip k i) (m + 1)
theorem det_congr : ∀ (N : Nat) {b c : Nat → Vec}, (∀ i m, i < N → m < N → b i m = c i m) → det N b = det N c
  | 0, _, _, _ => rfl
  | N + 1, b, c, h => by
    simp only [det]
    refine S_congr fun k hk => ?_
    rw [h k 0 hk (by omega), det_congr N (b := fun i m => b (skip k i) (m + 1)) (c := fun i m => c (skip k i) (m + 1)) fun i m hi hm => h _ _ (by unfold skip; split <;> omega) (by omega)]
/-- column i replaced -/
def set (b : Nat → Vec) (i : Nat) (v : Vec) : Nat → Vec := fun k => if k = i then v else b k
theorem set_same (b : Nat → Vec) (i : Nat) (v : Vec) : set b i v i = v := by unfold set; rw [if_pos rfl]
theorem set_ne {b : Nat → Vec} {i k : Nat} {v : Vec} (h : k ≠ i) : set b i v k = b k := by unfold set; rw [if_neg h]
theorem set_self (b : Nat → Vec) (i : Nat) : set b i (b i) = b := by
  funext k; unfold set; split
  · rename_i h; rw [h]
  · rfl
theorem set_set (b : Nat → Vec) (i : Nat) (v w : Vec) : set (set b i v) i w = set b i w := by
  funext k; unfold set; split <;> rfl
theorem set_comm {b : Nat → Vec} {i j : Nat} {v w : Vec} (h : i ≠ j) : set (set b i v) j w = set (set b j w) i v := by
  funext k; unfold set
  by_cases h1 : k = j
  · rw [if_pos h1, if_neg (by omega), if_pos h1]
  · rw [if_neg h1]
    by_cases h2 : k = i
    · rw [if_pos h2, if_pos h2]
    · rw [if_neg h2, if_neg h2, if_neg h1]
/-- multilinear: in a column -/
theorem det_lin : ∀ (N : Nat) (b : Nat → Vec) (i : Nat) (c : Int) (v w : Vec), i < N → det N (set b i fun m => c * v m + w m) = c * det N (set b i v) + det N (set b i w)
  | 0, _, _, _, _, _, h => by omega
  | N + 1, b, i, c, v, w, hi => by
    simp only [det]
    rw [← S_mul, ← S_add]
    refine S_congr fun k hk => ?_
    by_cases e : k = i
    · subst e
      have q : ∀ u : Vec, (fun (j m : Nat) => set b k u (skip k j) (m + 1)) = fun j m => b (skip k j) (m + 1) := fun u => by
        funext j m
        rw [set_ne (by unfold skip; split <;> omega)]
      rw [q, q, q, set_same, set_same, set_same]
      rw [Int.mul_add, Int.add_mul]
      congr 1
      rw [← Int.mul_assoc, ← Int.mul_assoc, ← Int.mul_assoc, Int.mul_comm (sg k) c]
    · rw [set_ne e, set_ne e, set_ne e]
      obtain ⟨i', hi', hs⟩ : ∃ i', i' < N ∧ ∀ j, (skip k j = i ↔ j = i') := by
        by_cases h1 : i < k
        · exact ⟨i, by omega, fun j => by unfold skip; split <;> omega⟩
        · exact ⟨i - 1, by omega, fun j => by unfold skip; split <;> omega⟩
      have q : ∀ u : Vec, (fun (j m : Nat) => set b i u (skip k j) (m + 1)) = set (fun j m => b (skip k j) (m + 1)) i' fun m => u (m + 1) := fun u => by
        funext j m
        unfold set
        by_cases h : j = i'
        · rw [if_pos ((hs j).mpr h), if_pos h]
        · rw [if_neg (fun z => h ((hs j).mp z)), if_neg h]
      rw [q, q, q, det_lin N _ i' c (fun m => v (m + 1)) (fun m => w (m + 1)) hi', Int.mul_add]
      congr 1
      rw [← Int.mul_assoc, ← Int.mul_assoc, Int.mul_comm c (sg k * b k 0)]
theorem det_adj : ∀ (N : Nat) (b : Nat → Vec) (p : Nat), p + 1 < N → (∀ m, b p m = b (p + 1) m) → det N b = 0
  | 0, _, _, h, _ => by omega
  | N + 1, b, p, hp, he => by
    simp only [det]
    rw [S_two (p := p) (q := p + 1) (by omega) hp (by omega) fun k hk h1 h2 => ?_]
    · have q : (fun (i m : Nat) => b (skip p i) (m + 1)) = fun i m => b (skip (p + 1) i) (m + 1) := by
        funext i m
        by_cases h : i = p
        · subst h
          have e1 : skip i i = i + 1 := by unfold skip; rw [if_neg (by omega)]
          have e2 : skip (i + 1) i = i := by unfold skip; rw [if_pos (by omega)]
          rw [e1, e2, he]
        · have e : skip p i = skip (p + 1) i := by unfold skip; split <;> split <;> omega
          rw [e]
      rw [q, he 0]
      simp only [sg]
      rw [Int.neg_mul, Int.neg_mul]
      omega
    · have z : det N (fun i m => b (skip k i) (m + 1)) = 0 := by
        by_cases h : k < p
        · refine det_adj N _ (p - 1) (by omega) fun m => ?_
          have e1 : skip k (p - 1) = p := by unfold skip; rw [if_neg (by omega)]; omega
          have e2 : skip k (p - 1 + 1) = p + 1 := by unfold skip; rw [if_neg (by omega)]; omega
          rw [e1, e2, he]
        · refine det_adj N _ p (by omega) fun m => ?_
          have e1 : skip k p = p := by unfold skip; rw [if_pos (by omega)]
          have e2 : skip k (p + 1) = p + 1 := by unfold skip; rw [if_pos (by omega)]
          rw [e1, e2, he]
      rw [z, Int.mul_zero]
theorem det_add (N : Nat) (b : Nat → Vec) (i : Nat) (v w : Vec) (hi : i < N) : det N (set b i fun m => v m + w m) = det N (set b i v) + det N (set b i w) := by
  have h := det_lin N b i 1 v w hi
  rw [Int.one_mul] at h
  rw [← h]
  congr 2
  funext m
  rw [Int.one_mul]
theorem det_zero (N : Nat) (b : Nat → Vec) (i : Nat) (hi : i < N) : det N (set b i fun _ => 0) = 0 := by
  have h := det_lin N b i 1 (fun _ => 0) (fun _ => 0) hi
  have e : (fun _ : Nat => (1 : Int) * 0 + 0) = fun _ => 0 := rfl
  rw [e] at h
  omega
theorem det_smul (N : Nat) (b : Nat → Vec) (i : Nat) (c : Int) (v : Vec) (hi : i < N) : det N (set b i fun m => c * v m) = c * det N (set b i v) := by
  have h := det_lin N b i c v (fun _ => 0) hi
  rw [det_zero N b i hi] at h
  have e : (fun m : Nat => c * v m + 0) = fun m => c * v m := by funext m; omega
  rw [e] at h
  omega
theorem det_sum (N : Nat) (b : Nat → Vec) (i : Nat) (hi : i < N) (c : Nat → Int) (v : Nat → Vec) : ∀ n : Nat, det N (set b i fun m => S n fun k => c k * v k m) = S n fun k => c k * det N (set b i (v k))
  | 0 => det_zero N b i hi
  | n + 1 => by
    show det N (set b i fun m => S n (fun k => c k * v k m) + c n * v n m) = _
    rw [det_add N b i _ _ hi, det_sum N b i hi c v n, det_smul N b i _ _ hi]
    rfl
/-- neighbours exchanged -/
theorem det_swap1 (N : Nat) (b : Nat → Vec) (p : Nat) (hp : p + 1 < N) (v w : Vec) : det N (set (set b p v) (p + 1) w) = - det N (set (set b p w) (p + 1) v) := by
  have h : ∀ u : Vec, det N (set (set b p u) (p + 1) u) = 0 := fun u => det_adj N _ p hp fun m => by rw [set_same, set_ne (by omega), set_same]
  have h1 := h fun m => v m + w m
  have e1 := det_add N (set b p fun m => v m + w m) (p + 1) v w hp
  rw [e1] at h1
  rw [set_comm (by omega), det_add N _ p v w (by omega), set_comm (i := p) (by omega), det_add N _ p v w (by omega)] at h1
  rw [set_comm (i := p + 1) (by omega), set_comm (i := p + 1) (by omega), set_comm (i := p + 1) (by omega), set_comm (i := p + 1) (by omega)] at h1
  have h2 := h v
  have h3 := h w
  omega
/-- two equal columns -/
theorem det_eq0 (N : Nat) : ∀ (g p : Nat) (b : Nat → Vec), p + g + 1 < N → b p = b (p + g + 1) → det N b = 0
  | 0, p, b, hq, he => det_adj N b p hq fun m => by rw [he]
  | g + 1, p, b, hq, he => by
    have e := det_swap1 N b (p + g + 1) (by omega) (b (p + g + 1)) (b (p + g + 1 + 1))
    rw [set_self, set_self] at e
    rw [e]
    have z : det N (set (set b (p + g + 1) (b (p + g + 1 + 1))) (p + g + 1 + 1) (b (p + g + 1))) = 0 := by
      refine det_eq0 N g p _ (by omega) ?_
      rw [set_ne (by omega), set_ne (by omega), set_ne (by omega), set_same]
      exact he
    rw [z]
    rfl
theorem det_alt (N : Nat) (b : Nat → Vec) {p q : Nat} (hp : p < N) (hq : q < N) (hpq : p ≠ q) (he : b p = b q) : det N b = 0 := by
  by_cases h : p < q
  · obtain ⟨g, rfl⟩ : ∃ g, q = p + g + 1 := ⟨q - p - 1, by omega⟩
    exact det_eq0 N g p b hq he
  · obtain ⟨g, rfl⟩ : ∃ g, p = q + g + 1 := ⟨p - q - 1, by omega⟩
    exact det_eq0 N g q b hp he.symm
/-- two columns exchanged -/
theorem det_swap (N : Nat) (b : Nat → Vec) {p q : Nat} (hp : p < N) (hq : q < N) (hpq : p ≠ q) (v w : Vec) : det N (set (set b p v) q w) = - det N (set (set b p w) q v) := by
  have h : ∀ u : Vec, det N (set (set b p u) q u) = 0 := fun u => det_alt N _ hp hq hpq (by rw [set_same, set_ne hpq, set_same])
  have h1 := h fun m => v m + w m
  have e1 := det_add N (set b p fun m => v m + w m) q v w hq
  rw [e1] at h1
  rw [set_comm hpq, det_add N _ p v w hp, set_comm (i := p) hpq, det_add N _ p v w hp] at h1
  rw [set_comm (i := q) hpq.symm, set_comm (i := q) hpq.symm, set_comm (i := q) hpq.symm, set_comm (i := q) hpq.symm] at h1
  have h2 := h v
  have h3 := h w
  omega
/-- the unit columns -/
def unit (k : Nat) : Vec := fun m => if m = k then 1 else 0
theorem det_unit : ∀ N : Nat, det N unit = 1
  | 0 => rfl
  | N + 1 => by
    simp only [det]
    rw [S_one (p := 0) (by omega) fun k hk hne => ?_]
    · have e : (fun (i m : Nat) => unit (skip 0 i) (m + 1)) = unit := by
        funext i m
        have e1 : skip 0 i = i + 1 := by unfold skip; rw [if_neg (by omega)]
        rw [e1]
        unfold unit
        by_cases h : m = i
        · rw [if_pos h, if_pos (by omega)]
        · rw [if_neg h, if_neg (by omega)]
      rw [e, det_unit N]
      rfl
    · have e : unit k 0 = 0 := by unfold unit; rw [if_neg (by omega)]
      rw [e, Int.mul_zero, Int.zero_mul]
/-- every vector by the units -/
theorem by_units (N : Nat) (v : Vec) {m : Nat} (hm : m < N) : v m = S N fun k => v k * unit k m := by
  rw [S_one hm fun i hi hne => by unfold unit; rw [if_neg (by omega), Int.mul_zero]]
  unfold unit
  rw [if_pos rfl, Int.mul_one]
theorem det_unit_set (N : Nat) {k : Nat} (hk : k < N) (v : Vec) : det N (set unit k v) = v k := by
  have e : det N (set unit k v) = det N (set unit k fun m => S N fun j => v j * unit j m) := det_congr N fun i m hi hm => by
    unfold set
    by_cases h : i = k
    · rw [if_pos h, if_pos h]; exact by_units N v hm
    · rw [if_neg h, if_neg h]
  rw [e, det_sum N unit k hk, S_one hk fun i hi hne => ?_]
  · rw [set_self, det_unit, Int.mul_one]
  · rw [det_alt N _ hk hi hne.symm (by rw [set_same, set_ne hne]), Int.mul_zero]
/-- size -/
def fact : Nat → Nat
  | 0 => 1
  | n + 1 => (n + 1) * fact n
theorem S_abs {n : Nat} {f : Nat → Int} {c : Nat} (h : ∀ i, i < n → (f i).natAbs ≤ c) : (S n f).natAbs ≤ n * c := by
  induction n with
  | zero => simp [S]
  | succ n ih =>
    simp only [S]
    have h1 := ih fun i hi => h i (by omega)
    have h2 := h n (by omega)
    have h3 : (n + 1) * c = n * c + c := Nat.succ_mul n c
    have h4 := Int.natAbs_add_le (S n f) (f n)
    omega
theorem sg_abs : ∀ k : Nat, (sg k).natAbs = 1
  | 0 => rfl
  | k + 1 => by simp only [sg]; rw [Int.natAbs_neg, sg_abs k]
theorem det_size (M : Nat) : ∀ (N : Nat) (b : Nat → Vec), (∀ i m, i < N → m < N → (b i m).natAbs ≤ M) → (det N b).natAbs ≤ fact N * M ^ N
  | 0, _, _ => by simp [det, fact]
  | N + 1, b, h => by
    simp only [det]
    have q := S_abs (n := N + 1) (f := fun k => sg k * b k 0 * det N fun i m => b (skip k i) (m + 1)) (c := M * (fact N * M ^ N)) fun k hk => by
      rw [Int.natAbs_mul, Int.natAbs_mul, sg_abs, Nat.one_mul]
      exact Nat.mul_le_mul (h k 0 hk (by omega)) (det_size M N _ fun i m hi hm => h _ _ (by unfold skip; split <;> omega) (by omega))
    refine Nat.le_trans q (Nat.le_of_eq ?_)
    show (N + 1) * (M * (fact N * M ^ N)) = (N + 1) * fact N * M ^ (N + 1)
    rw [Nat.pow_succ, Nat.mul_assoc, Nat.mul_left_comm M, Nat.mul_comm M (M ^ N)]
end Mx
set_option linter.all false
/-! Plain Lean: the exact tableau, Bland's rule. n rows; columns 0 .. L-1; the goal row is coordinate n. -/
namespace Mx
structure Tb where
  R : Nat → Nat → Int
  z : Nat → Int
  bs : Nat → Nat
  d : Int
/-- the basis with the goal's unit last -/
def cols (n : Nat) (a : Nat → Vec) (bs : Nat → Nat) : Nat → Vec := fun k => if k < n then a (bs k) else unit n
/-- the invariant -/
structure Inv (n L : Nat) (a : Nat → Vec) (t : Tb) : Prop where
  pos : 0 < t.d
  dd : t.d = det (n + 1) (cols n a t.bs)
  row : ∀ k j, k < n → j < L → t.R k j = det (n + 1) (set (cols n a t.bs) k (a j))
  goal : ∀ j, j < L → t.z j = det (n + 1) (set (cols n a t.bs) n (a j))
  eqs : ∀ j m, j < L → m < n + 1 → t.d * a j m = S n (fun k => t.R k j * a (t.bs k) m) + t.z j * unit n m
  lt : ∀ k, k < n → t.bs k < L
def turn (t : Tb) (r c : Nat) : Tb where
  R := fun k j => if k = r then t.R r j else (t.R k j * t.R r c - t.R k c * t.R r j) / t.d
  z := fun j => (t.z j * t.R r c - t.z c * t.R r j) / t.d
  bs := fun k => if k = r then c else t.bs k
  d := t.R r c
section
variable {n L : Nat} {a : Nat → Vec} {t : Tb}
theorem cols_n (bs : Nat → Nat) : cols n a bs n = unit n := by unfold cols; rw [if_neg (by omega)]
theorem cols_lt {bs : Nat → Nat} {k : Nat} (h : k < n) : cols n a bs k = a (bs k) := by unfold cols; rw [if_pos h]
theorem cols_turn {r c : Nat} (hr : r < n) : ∀ k, cols n a (turn t r c).bs k = set (cols n a t.bs) r (a c) k := fun k => by
  unfold turn cols set
  by_cases h : k = r
  · subst h
    simp only [if_pos hr, if_true]
  · simp only [if_neg h]
theorem cols_turn' {r c : Nat} (hr : r < n) : cols n a (turn t r c).bs = set (cols n a t.bs) r (a c) := funext fun k => cols_turn hr k
/-- d·D(b with i := v) by the equations: the general exchange -/
theorem exch (I : Inv n L a t) {r c i j : Nat} (hr : r < n) (hc : c < L) (hi : i < n + 1) (hir : i ≠ r) (hj : j < L) :
    t.d * det (n + 1) (set (set (cols n a t.bs) r (a c)) i (a j)) = (det (n + 1) (set (cols n a t.bs) i (a j))) * t.R r c - det (n + 1) (set (cols n a t.bs) i (a c)) * t.R r j := by
  -- column j by the basis
  have ej : det (n + 1) (set (set (cols n a t.bs) r (a c)) i fun m => t.d * a j m) = det (n + 1) (set (set (cols n a t.bs) r (a c)) i fun m => S n (fun k => t.R k j * a (t.bs k) m) + t.z j * unit n m) := det_congr _ fun k m hk hm => by
    unfold set
    by_cases h : k = i
    · rw [if_pos h, if_pos h]; exact I.eqs j m hj hm
    · rw [if_neg h, if_neg h]
  rw [det_smul _ _ _ _ _ hi] at ej
  rw [ej, det_add _ _ _ _ _ hi, det_sum _ _ _ hi (fun k => t.R k j) (fun k => a (t.bs k)), det_smul _ _ _ _ _ hi]
  have hrn : r < n + 1 := by omega
  -- the term of r: exchanged
  have tr : det (n + 1) (set (set (cols n a t.bs) r (a c)) i (a (t.bs r))) = - det (n + 1) (set (cols n a t.bs) i (a c)) := by
    rw [det_swap _ _ hrn hi hir.symm]
    congr 2
    rw [← cols_lt (a := a) (bs := t.bs) hr, set_self]
  -- a term k other than i, r: two equal columns
  have tk : ∀ k, k < n → k ≠ r → k ≠ i → det (n + 1) (set (set (cols n a t.bs) r (a c)) i (a (t.bs k))) = 0 := fun k hk h1 h2 =>
    det_alt _ _ (p := k) (q := i) (by omega) hi h2 (by rw [set_ne h2, set_ne h1, set_same, cols_lt hk])
  by_cases hin : i = n
  · subst hin
    have e1 : S i (fun k => t.R k j * det (i + 1) (set (set (cols i a t.bs) r (a c)) i (a (t.bs k)))) = t.R r j * - det (i + 1) (set (cols i a t.bs) i (a c)) := by
      rw [S_one hr fun k hk hne => by rw [tk k hk hne (by omega), Int.mul_zero], tr]
    have e2 : det (i + 1) (set (set (cols i a t.bs) r (a c)) i (unit i)) = t.R r c := by
      rw [I.row r c hr hc, set_comm hir.symm, ← cols_n (a := a) t.bs, set_self]
    rw [e1, e2, I.goal j hj, Int.mul_neg, Int.mul_comm (t.R r j)]
    omega
  · have hin' : i < n := by omega
    have e1 : S n (fun k => t.R k j * det (n + 1) (set (set (cols n a t.bs) r (a c)) i (a (t.bs k)))) = t.R r j * - det (n + 1) (set (cols n a t.bs) i (a c)) + t.R i j * t.R r c := by
      rw [S_two hr hin' hir.symm fun k hk h1 h2 => by rw [tk k hk h1 h2, Int.mul_zero], tr]
      congr 2
      rw [set_comm hir.symm, ← cols_lt (a := a) (bs := t.bs) hin', set_self, I.row r c hr hc]
    have e2 : det (n + 1) (set (set (cols n a t.bs) r (a c)) i (unit n)) = 0 := by
      refine det_alt _ _ (p := n) (q := i) (by omega) hi (by omega) ?_
      rw [set_ne (by omega), set_ne (by omega), set_same, cols_n]
    rw [e1, e2, Int.mul_zero, I.row i j hin' hj, Int.mul_neg, Int.mul_comm (t.R r j)]
    omega
theorem div_of {x y d : Int} (hd : 0 < d) (h : d * y = x) : x / d = y := by rw [← h, Int.mul_ediv_cancel_left _ (by omega)]
/-- a turn keeps the invariant; its divisions are exact -/
theorem Inv.turn (I : Inv n L a t) {r c : Nat} (hr : r < n) (hc : c < L) (hp : 0 < t.R r c) : Inv n L a (turn t r c) := by
  have hrow : ∀ k j, k < n → j < L → (Mx.turn t r c).R k j = det (n + 1) (set (set (cols n a t.bs) r (a c)) k (a j)) := fun k j hk hj => by
    show (if k = r then t.R r j else (t.R k j * t.R r c - t.R k c * t.R r j) / t.d) = _
    by_cases h : k = r
    · subst h
      rw [if_pos rfl, set_set, I.row k j hk hj]
    · rw [if_neg h, I.row k j hk hj, I.row k c hk hc]
      exact div_of I.pos (exch I hr hc (by omega) h hj)
  have hgoal : ∀ j, j < L → (Mx.turn t r c).z j = det (n + 1) (set (set (cols n a t.bs) r (a c)) n (a j)) := fun j hj => by
    show (t.z j * t.R r c - t.z c * t.R r j) / t.d = _
    rw [I.goal j hj, I.goal c hc]
    exact div_of I.pos (exch I hr hc (by omega) (by omega) hj)
  refine ⟨hp, ?_, fun k j hk hj => by rw [hrow k j hk hj, cols_turn' hr], fun j hj => by rw [hgoal j hj, cols_turn' hr], fun j m hj hm => ?_, fun k hk => ?_⟩
  · rw [cols_turn' hr]
    exact I.row r c hr hc
  · -- the equations, times d
    have hd := I.pos
    have e1 : ∀ k, k < n → k ≠ r → t.d * (Mx.turn t r c).R k j = t.R k j * t.R r c - t.R k c * t.R r j := fun k hk h => by
      rw [hrow k j hk hj, exch I hr hc (by omega) h hj, I.row k j hk hj, I.row k c hk hc]
    have e2 : t.d * (Mx.turn t r c).z j = t.z j * t.R r c - t.z c * t.R r j := by
      rw [hgoal j hj, exch I hr hc (by omega) (by omega) hj, I.goal j hj, I.goal c hc]
    have er : (Mx.turn t r c).R r j = t.R r j := by show (if r = r then _ else _) = _; rw [if_pos rfl]
    have ec := I.eqs c m hc hm
    have ej := I.eqs j m hj hm
    -- the new sum, times d
    have es : t.d * S n (fun k => (Mx.turn t r c).R k j * a ((Mx.turn t r c).bs k) m) = t.R r j * (t.d * a c m) + (t.R r c * S n (fun k => t.R k j * a (t.bs k) m) - t.R r j * S n (fun k => t.R k c * a (t.bs k) m)) := by
      rw [← S_mul]
      have f1 : ∀ k, k < n → t.d * ((Mx.turn t r c).R k j * a ((Mx.turn t r c).bs k) m) = (t.R r c * (t.R k j * a (t.bs k) m) + (- t.R r j) * (t.R k c * a (t.bs k) m)) + (if k = r then t.R r j * (t.d * a c m) else 0) := fun k hk => by
        by_cases h : k = r
        · subst h
          rw [if_pos rfl, er]
          have eb : (Mx.turn t k c).bs k = c := by show (if k = k then c else _) = c; rw [if_pos rfl]
          rw [eb, Int.neg_mul]
          rw [Int.mul_left_comm (t.R k c), Int.mul_left_comm t.d]
          omega
        · rw [if_neg h]
          have eb : (Mx.turn t r c).bs k = t.bs k := by show (if k = r then c else _) = _; rw [if_neg h]
          rw [eb, ← Int.mul_assoc, e1 k hk h, Int.sub_mul]
          rw [Int.add_zero, Int.neg_mul, Int.mul_comm (t.R k j) (t.R r c), Int.mul_comm (t.R k c) (t.R r j), Int.mul_assoc, Int.mul_assoc]
          omega
      rw [S_congr f1, S_add, S_add, S_mul, S_mul, S_one (f := fun k => if k = r then t.R r j * (t.d * a c m) else 0) hr (fun k hk hne => by rw [if_neg hne]), if_pos rfl, Int.neg_mul]
      omega
    have key : t.d * ((Mx.turn t r c).d * a j m) = t.d * (S n (fun k => (Mx.turn t r c).R k j * a ((Mx.turn t r c).bs k) m) + (Mx.turn t r c).z j * unit n m) := by
      rw [Int.mul_add, es, ← Int.mul_assoc t.d ((Mx.turn t r c).z j), e2, Int.sub_mul]
      show t.d * (t.R r c * a j m) = _
      rw [Int.mul_left_comm, ej, ec, Int.mul_add, Int.mul_add]
      rw [Int.mul_comm (t.z j) (t.R r c), Int.mul_comm (t.z c) (t.R r j), Int.mul_assoc, Int.mul_assoc]
      omega
    exact Int.eq_of_mul_eq_mul_left (by omega) key
  · show (if k = r then c else t.bs k) < L
    split
    · exact hc
    · exact I.lt k hk

/-! ### sizes -/
theorem Inv.size (I : Inv n L a t) {M : Nat} (h : ∀ j m, j < L → m < n + 1 → (a j m).natAbs ≤ M) (h1 : 1 ≤ M) :
    (∀ k j, k < n → j < L → (t.R k j).natAbs ≤ fact (n + 1) * M ^ (n + 1)) ∧ (∀ j, j < L → (t.z j).natAbs ≤ fact (n + 1) * M ^ (n + 1)) ∧ t.d.natAbs ≤ fact (n + 1) * M ^ (n + 1) := by
  have hc : ∀ i m, i < n + 1 → m < n + 1 → (cols n a t.bs i m).natAbs ≤ M := fun i m hi hm => by
    unfold cols
    split
    · rename_i h'
      exact h _ _ (I.lt i h') hm
    · unfold unit
      split
      · exact h1
      · exact Nat.zero_le _
  have hs : ∀ i j, j < L → i < n + 1 → (det (n + 1) (set (cols n a t.bs) i (a j))).natAbs ≤ fact (n + 1) * M ^ (n + 1) := fun i j hj hi => det_size M (n + 1) _ fun k m hk hm => by
    unfold set
    split
    · exact h j m hj hm
    · exact hc k m hk hm
  exact ⟨fun k j hk hj => by rw [I.row k j hk hj]; exact hs k j hj (by omega), fun j hj => by rw [I.goal j hj]; exact hs n j hj (by omega), by rw [I.dd]; exact det_size M (n + 1) _ hc⟩

/-! ### the goal row -/
/-- the goal's entry is linear in the column -/
theorem Inv.goal_lin (I : Inv n L a t) {j s : Nat} (hj : j < L) (hs : s < L) (t2 : Tb) (I2 : Inv n L a t2) : t2.d * t.z s = S n (fun k => t2.R k s * t.z (t2.bs k)) + t2.z s * t.d := by
  have e : det (n + 1) (set (cols n a t.bs) n fun m => t2.d * a s m) = det (n + 1) (set (cols n a t.bs) n fun m => S n (fun k => t2.R k s * a (t2.bs k) m) + t2.z s * unit n m) := det_congr _ fun k m hk hm => by
    unfold set
    by_cases h : k = n
    · rw [if_pos h, if_pos h]; exact I2.eqs s m hs hm
    · rw [if_neg h, if_neg h]
  rw [det_smul _ _ _ _ _ (by omega), ← I.goal s hs, det_add _ _ _ _ _ (by omega), det_sum _ _ _ (by omega) (fun k => t2.R k s) (fun k => a (t2.bs k)), det_smul _ _ _ _ _ (by omega)] at e
  rw [e]
  congr 1
  · exact S_congr fun k hk => by rw [I.goal _ (I2.lt k hk)]
  · rw [← cols_n (a := a) t.bs, set_self, I.dd]
/-- the basis has no index twice -/
theorem Inv.inj (I : Inv n L a t) {k k' : Nat} (hk : k < n) (hk' : k' < n) (h : t.bs k = t.bs k') : k = k' := by
  by_cases e : k = k'
  · exact e
  · have z : det (n + 1) (cols n a t.bs) = 0 := det_alt _ _ (p := k) (q := k') (by omega) (by omega) e (by rw [cols_lt hk, cols_lt hk', h])
    have := I.pos
    rw [I.dd, z] at this
    omega
/-- a column of the basis has goal 0 -/
theorem Inv.goal_basic (I : Inv n L a t) {k : Nat} (hk : k < n) : t.z (t.bs k) = 0 := by
  rw [I.goal _ (I.lt k hk)]
  exact det_alt _ _ (p := k) (q := n) (by omega) (by omega) (by omega) (by rw [set_ne (by omega), set_same, cols_lt hk])
/-- the goal of a combination -/
theorem Inv.goal_comb (I : Inv n L a t) {j : Nat} (hj : j < L) {q : Nat → Nat} {c : Nat → Int} {u : Int} {N : Nat} (hq : ∀ i, i < N → q i < L) (h : ∀ m, m < n + 1 → a j m = S N (fun i => c i * a (q i) m) + u * unit n m) : t.z j = S N (fun i => c i * t.z (q i)) + u * t.d := by
  rw [I.goal j hj]
  have e : det (n + 1) (set (cols n a t.bs) n (a j)) = det (n + 1) (set (cols n a t.bs) n fun m => S N (fun i => c i * a (q i) m) + u * unit n m) := det_congr _ fun k m hk hm => by
    unfold set
    by_cases h' : k = n
    · rw [if_pos h', if_pos h']; exact h m hm
    · rw [if_neg h', if_neg h']
  rw [e, det_add _ _ _ _ _ (by omega), det_sum _ _ _ (by omega) c (fun i => a (q i)), det_smul _ _ _ _ _ (by omega)]
  congr 1
  · exact S_congr fun i hi => by rw [I.goal _ (hq i hi)]
  · rw [← cols_n (a := a) t.bs, set_self, I.dd]
end

/-! ### Bland -/
/-- t' behind t by a pivot at (r, c) chosen by the least indices; Mv: columns that may enter -/
structure Piv (n Mv : Nat) (t : Tb) (r c : Nat) (t' : Tb) : Prop where
  hr : r < n
  hc : c < Mv
  neg : t.z c < 0
  least : ∀ j, j < c → 0 ≤ t.z j
  pos : 0 < t.R r c
  low : ∀ k, k < n → 0 < t.R k c → t.bs r ≤ t.bs k
  eq : t' = turn t r c
section
variable {n L Mv : Nat} {a : Nat → Vec} {s : Nat → Tb} {r c : Nat → Nat}
theorem run_inv (hM : Mv ≤ L) (h0 : Inv n L a (s 0)) {N : Nat} (hp : ∀ i, i < N → Piv n Mv (s i) (r i) (c i) (s (i + 1))) : ∀ i, i ≤ N → Inv n L a (s i)
  | 0, _ => h0
  | i + 1, h => by
    have p := hp i (by omega)
    rw [p.eq]
    exact (run_inv hM h0 hp i (by omega)).turn p.hr (Nat.lt_of_lt_of_le p.hc hM) p.pos
/-- the greater index of a pivot -/
def top (s : Nat → Tb) (r c : Nat → Nat) (i : Nat) : Nat := max (c i) ((s i).bs (r i))
theorem top_eq {i t : Nat} (h : top s r c i = t) : c i ≤ t ∧ (s i).bs (r i) ≤ t ∧ (c i = t ∨ (s i).bs (r i) = t) := by
  unfold top at h
  omega
/-- above the greatest index the basis stays -/
theorem stays {N : Nat} (hp : ∀ i, i < N → Piv n Mv (s i) (r i) (c i) (s (i + 1))) {t p : Nat} : ∀ g : Nat, p + g ≤ N → (∀ i, p ≤ i → i < p + g → top s r c i ≤ t) → ∀ j, t < j → ((∃ k, k < n ∧ (s p).bs k = j) ↔ ∃ k, k < n ∧ (s (p + g)).bs k = j)
  | 0, _, _, j, _ => Iff.rfl
  | g + 1, hN, ht, j, hj => by
    rw [stays hp g (by omega) (fun i h1 h2 => ht i h1 (by omega)) j hj]
    have P := hp (p + g) (by omega)
    have tt := ht (p + g) (by omega) (by omega)
    unfold top at tt
    have e : ∀ k, (s (p + (g + 1))).bs k = if k = r (p + g) then c (p + g) else (s (p + g)).bs k := fun k => by
      rw [show p + (g + 1) = p + g + 1 from rfl, P.eq]; rfl
    constructor
    · rintro ⟨k, hk, hb⟩
      refine ⟨k, hk, ?_⟩
      rw [e]
      by_cases h : k = r (p + g)
      · subst h; omega
      · rw [if_neg h]; exact hb
    · rintro ⟨k, hk, hb⟩
      refine ⟨k, hk, ?_⟩
      rw [e] at hb
      by_cases h : k = r (p + g)
      · rw [if_pos h] at hb; omega
      · rw [if_neg h] at hb; exact hb
/-- t enters at one state and leaves at another, nothing above t changed between: no -/
theorem clash (hM : Mv ≤ L) {t1 t2 t1' t2' : Tb} {r1 c1 r2 c2 : Nat} (I1 : Inv n L a t1) (I2 : Inv n L a t2) (p1 : Piv n Mv t1 r1 c1 t1') (p2 : Piv n Mv t2 r2 c2 t2') (hl : t2.bs r2 = c1) (hc : c2 ≤ c1)
    (hs : ∀ j, c1 < j → (∃ k, k < n ∧ t2.bs k = j) → ∃ k, k < n ∧ t1.bs k = j) : False := by
  have hcl : c2 < L := Nat.lt_of_lt_of_le p2.hc hM
  have e := I1.goal_lin (j := c2) hcl hcl t2 I2
  have hne : c2 ≠ c1 := fun z => by
    have h := I2.goal_basic p2.hr
    rw [hl, ← z] at h
    have := p2.neg
    omega
  have h1 : 0 ≤ t1.z c2 := p1.least c2 (by omega)
  have h2 : 0 ≤ t2.d * t1.z c2 := Int.mul_nonneg (Int.le_of_lt I2.pos) h1
  have h3 : t2.z c2 * t1.d < 0 := Int.mul_neg_of_neg_of_pos p2.neg I1.pos
  have h4 : S n (fun k => t2.R k c2 * t1.z (t2.bs k)) ≤ 0 := by
    have : S n (fun k => t2.R k c2 * t1.z (t2.bs k)) ≤ S n (fun _ => 0) := S_le fun k hk => by
      by_cases h5 : t2.bs k = c1
      · have hkr : k = r2 := I2.inj hk p2.hr (by rw [h5, hl])
        rw [h5, hkr]
        exact Int.le_of_lt (Int.mul_neg_of_pos_of_neg p2.pos p1.neg)
      · by_cases h6 : t2.bs k < c1
        · have h7 : t2.R k c2 ≤ 0 := by
            refine Int.not_lt.mp fun z => ?_
            have := p2.low k hk z
            omega
          exact Int.mul_nonpos_of_nonpos_of_nonneg h7 (p1.least _ h6)
        · obtain ⟨k', hk', hb⟩ := hs (t2.bs k) (by omega) ⟨k, hk, rfl⟩
          have z := I1.goal_basic hk'
          rw [hb] at z
          rw [z, Int.mul_zero]
          exact Int.le_refl _
    rw [S_zero (f := fun _ => 0) fun _ _ => rfl] at this
    exact this
  omega
/-- a stretch of pivots all of whose indices are below t is shorter than 2^t -/
theorem short (hM : Mv ≤ L) (h0 : Inv n L a (s 0)) {N : Nat} (hp : ∀ i, i < N → Piv n Mv (s i) (r i) (c i) (s (i + 1))) : ∀ (t p g : Nat), p + g ≤ N → (∀ i, p ≤ i → i < p + g → top s r c i < t) → g < 2 ^ t
  | 0, p, g, hN, h => by
    by_cases hg : g = 0
    · omega
    · exact absurd (h p (Nat.le_refl _) (by omega)) (by omega)
  | t + 1, p, g, hN, h => by
    have inv := run_inv hM h0 hp
    -- t takes part at most once
    have once : ∀ i j, p ≤ i → i < j → j < p + g → top s r c i = t → top s r c j = t → (∀ k, i < k → k < j → top s r c k < t) → False := by
      intro i j hi hij hj ti tj hk
      have Pi := hp i (by omega)
      have Pj := hp j (by omega)
      have Ii := inv i (by omega)
      have Ij := inv j (by omega)
      -- above t nothing changes from i to j
      have st : ∀ q, t < q → ((∃ k, k < n ∧ (s i).bs k = q) ↔ ∃ k, k < n ∧ (s j).bs k = q) := by
        have e : j = i + (j - i) := by omega
        rw [e]
        exact stays hp (j - i) (by omega) fun k h1 h2 => by have := h k (by omega) (by omega); omega
      -- where t is: behind i, ahead of j
      have at_ : (∃ k, k < n ∧ (s (i + 1)).bs k = t) ↔ ∃ k, k < n ∧ (s j).bs k = t := by
        have e : j = i + 1 + (j - (i + 1)) := by omega
        by_cases h0t : t = 0
        · -- no pivot has indices below 0: j = i + 1
          by_cases hj1 : j = i + 1
          · rw [hj1]
          · exact absurd (hk (i + 1) (by omega) (by omega)) (by omega)
        · rw [e]
          exact stays hp (j - (i + 1)) (by omega) (t := t - 1) (fun k h1 h2 => by have := hk k (by omega) (by omega); omega) t (by omega)
      have e1 : ∀ k, (s (i + 1)).bs k = if k = r i then c i else (s i).bs k := fun k => by rw [Pi.eq]; rfl
      obtain ⟨ti1, ti2, ti3⟩ := top_eq ti
      obtain ⟨tj1, tj2, tj3⟩ := top_eq tj
      by_cases hci : c i = t
      · -- it enters at i: it is in the basis at j: it leaves there
        have hb : ∃ k, k < n ∧ (s j).bs k = t := at_.mp ⟨r i, Pi.hr, by rw [e1, if_pos rfl, hci]⟩
        have hcj : c j ≠ t := fun z => by
          obtain ⟨k, hk', hb'⟩ := hb
          have q := Ij.goal_basic hk'
          rw [hb', ← z] at q
          have := Pj.neg
          omega
        have hl : (s j).bs (r j) = t := by omega
        exact clash hM Ii Ij Pi Pj (by rw [hl, hci]) (by omega) fun q hq => (st q (by omega)).mpr
      · -- it leaves at i: it is not in the basis at j: it enters there
        have hli : (s i).bs (r i) = t := by omega
        have hb : ¬ ∃ k, k < n ∧ (s j).bs k = t := fun z => by
          obtain ⟨k, hk', hb'⟩ := at_.mpr z
          rw [e1] at hb'
          by_cases hkr : k = r i
          · rw [if_pos hkr] at hb'; omega
          · rw [if_neg hkr] at hb'
            exact hkr (Ii.inj hk' Pi.hr (by rw [hb', hli]))
        have hcj : c j = t := by
          by_cases z : c j = t
          · exact z
          · exact absurd ⟨r j, Pj.hr, by omega⟩ hb
        exact clash hM Ij Ii Pj Pi (by rw [hli, hcj]) (by omega) fun q hq => (st q (by omega)).mp
    by_cases hex : ∃ i, p ≤ i ∧ i < p + g ∧ top s r c i = t
    · -- the first
      obtain ⟨i, hi, hig, hit, hfirst⟩ : ∃ i, p ≤ i ∧ i < p + g ∧ top s r c i = t ∧ ∀ k, p ≤ k → k < i → top s r c k ≠ t := by
        obtain ⟨i, h1, h2, h3⟩ := hex
        induction i using Nat.strongRecOn with
        | ind i ih =>
          by_cases hs : ∃ k, p ≤ k ∧ k < i ∧ top s r c k = t
          · obtain ⟨k, k1, k2, k3⟩ := hs
            exact ih k k2 k1 (by omega) k3
          · exact ⟨i, h1, h2, h3, fun k k1 k2 k3 => hs ⟨k, k1, k2, k3⟩⟩
      have a1 : i - p < 2 ^ t := short hM h0 hp t p (i - p) (by omega) fun k h1 h2 => by
        have z1 := h k h1 (by omega)
        have z2 := hfirst k h1 (by omega)
        omega
      have a2 : p + g - (i + 1) < 2 ^ t := short hM h0 hp t (i + 1) (p + g - (i + 1)) (by omega) fun k h1 h2 => by
        -- the next after i would clash
        have z1 := h k (by omega) (by omega)
        by_cases z2 : top s r c k = t
        · exfalso
          obtain ⟨j, hj, hjg, hjt, hmid⟩ : ∃ j, i < j ∧ j < p + g ∧ top s r c j = t ∧ ∀ k, i < k → k < j → top s r c k ≠ t := by
            have w : ∃ j, i < j ∧ j < p + g ∧ top s r c j = t := ⟨k, by omega, by omega, z2⟩
            obtain ⟨j, h1, h2, h3⟩ := w
            clear z2 z1
            induction j using Nat.strongRecOn with
            | ind j ih =>
              by_cases hs : ∃ k, i < k ∧ k < j ∧ top s r c k = t
              · obtain ⟨k, k1, k2, k3⟩ := hs
                exact ih k k2 (by omega) (by omega) k3
              · exact ⟨j, by omega, by omega, h3, fun k k1 k2 k3 => hs ⟨k, k1, k2, k3⟩⟩
          exact once i j hi hj hjg hit hjt fun k k1 k2 => by
            have y1 := h k (by omega) (by omega)
            have y2 := hmid k k1 k2
            omega
        · omega
      have e : 2 ^ (t + 1) = 2 ^ t + 2 ^ t := by rw [Nat.pow_succ]; omega
      omega
    · have a1 : g < 2 ^ t := short hM h0 hp t p g hN fun k h1 h2 => by
        have z1 := h k h1 h2
        by_cases z2 : top s r c k = t
        · exact absurd ⟨k, h1, h2, z2⟩ hex
        · omega
      have e : 2 ^ (t + 1) = 2 ^ t + 2 ^ t := by rw [Nat.pow_succ]; omega
      omega
/-- every run is shorter than 2^Mv -/
theorem run_short (hM : Mv ≤ L) (h0 : Inv n L a (s 0)) (hb : ∀ k, k < n → (s 0).bs k < Mv) {N : Nat} (hp : ∀ i, i < N → Piv n Mv (s i) (r i) (c i) (s (i + 1))) : N < 2 ^ Mv := by
  have hbs : ∀ i, i ≤ N → ∀ k, k < n → (s i).bs k < Mv := by
    intro i
    induction i with
    | zero => intro _; exact hb
    | succ i ih =>
      intro hi k hk
      have P := hp i (by omega)
      rw [P.eq]
      show (if k = r i then c i else (s i).bs k) < Mv
      split
      · exact P.hc
      · exact ih (by omega) k hk
  refine short hM h0 hp Mv 0 N (by omega) fun i _ h2 => ?_
  have P := hp i (by omega)
  have := hbs i (by omega) _ P.hr
  have := P.hc
  unfold top
  omega
end
end Mx
set_option linter.all false
/-! Plain Lean: the first tableau; what the last one says. -/
namespace Mx
/-- the columns: cnt rows with bounds, n units, the right side 0 -/
def av (cnt n : Nat) (row : Nat → Nat → Int) (bd : Nat → Int) : Nat → Vec := fun j =>
  if j < cnt then fun m => if m < n then row j m else if m = n then - bd j else 0
  else if j < cnt + n then unit (j - cnt) else fun _ => 0
def t0 (cnt n : Nat) (row : Nat → Nat → Int) (bd : Nat → Int) : Tb where
  R := fun k j => av cnt n row bd j k
  z := fun j => av cnt n row bd j n
  bs := fun k => cnt + k
  d := 1
section
variable {cnt n : Nat} {row : Nat → Nat → Int} {bd : Nat → Int}
theorem av_row {j m : Nat} (h : j < cnt) (hm : m < n) : av cnt n row bd j m = row j m := by unfold av; rw [if_pos h, if_pos hm]
theorem av_bd {j : Nat} (h : j < cnt) : av cnt n row bd j n = - bd j := by unfold av; rw [if_pos h, if_neg (by omega), if_pos rfl]
theorem av_unit {k : Nat} (h : k < n) : av cnt n row bd (cnt + k) = unit k := by
  unfold av; rw [if_neg (by omega), if_pos (by omega)]; congr 1; omega
theorem av_rhs : av cnt n row bd (cnt + n) = fun _ => 0 := by unfold av; rw [if_neg (by omega), if_neg (by omega)]
theorem cols0 {k m : Nat} (hk : k < n + 1) : cols n (av cnt n row bd) (fun k => cnt + k) k m = unit k m := by
  by_cases h : k < n
  · rw [cols_lt h, av_unit h]
  · have e : k = n := by omega
    subst e
    rw [cols_n]
theorem set0 (i : Nat) (v : Vec) : det (n + 1) (set (cols n (av cnt n row bd) fun k => cnt + k) i v) = det (n + 1) (set unit i v) := det_congr _ fun k m hk hm => by
  unfold set
  by_cases h : k = i
  · rw [if_pos h, if_pos h]
  · rw [if_neg h, if_neg h, cols0 hk]
theorem inv0 : Inv n (cnt + n + 1) (av cnt n row bd) (t0 cnt n row bd) where
  pos := by show (0 : Int) < 1; omega
  dd := by
    show (1 : Int) = _
    rw [← det_unit (n + 1)]
    exact det_congr _ fun k m hk hm => (cols0 hk).symm
  row := fun k j hk hj => by
    show av cnt n row bd j k = det (n + 1) (set (cols n (av cnt n row bd) fun k => cnt + k) k _)
    rw [set0, det_unit_set _ (by omega)]
  goal := fun j hj => by
    show av cnt n row bd j n = det (n + 1) (set (cols n (av cnt n row bd) fun k => cnt + k) n _)
    rw [set0, det_unit_set _ (by omega)]
  eqs := fun j m hj hm => by
    show 1 * av cnt n row bd j m = S n (fun k => av cnt n row bd j k * av cnt n row bd (cnt + k) m) + av cnt n row bd j n * unit n m
    rw [Int.one_mul, by_units (n + 1) (av cnt n row bd j) hm]
    show S n _ + _ = _
    congr 1
    exact S_congr fun k hk => by rw [av_unit hk]
  lt := fun k hk => by show cnt + k < _; omega
/-- the entries' size -/
theorem av_size {M : Nat} (h1 : 1 ≤ M) (hr : ∀ j m, j < cnt → m < n → (row j m).natAbs ≤ M) (hb : ∀ j, j < cnt → (bd j).natAbs ≤ M) (j m : Nat) : (av cnt n row bd j m).natAbs ≤ M := by
  unfold av
  by_cases h : j < cnt
  · rw [if_pos h]
    show (if m < n then row j m else if m = n then - bd j else 0).natAbs ≤ M
    by_cases h2 : m < n
    · rw [if_pos h2]; exact hr j m h h2
    · rw [if_neg h2]
      by_cases h3 : m = n
      · rw [if_pos h3, Int.natAbs_neg]; exact hb j h
      · rw [if_neg h3]; exact Nat.zero_le _
  · rw [if_neg h]
    by_cases h2 : j < cnt + n
    · rw [if_pos h2]
      unfold unit
      by_cases h3 : m = j - cnt
      · rw [if_pos h3]; exact h1
      · rw [if_neg h3]; exact Nat.zero_le _
    · rw [if_neg h2]; exact Nat.zero_le _
variable {t : Tb}
/-- the right side stays 0 -/
theorem Inv.rhs (I : Inv n (cnt + n + 1) (av cnt n row bd) t) {k : Nat} (hk : k < n) : t.R k (cnt + n) = 0 := by
  rw [I.row k _ hk (by omega), av_rhs]
  exact det_zero _ _ _ (by omega)
/-- a row's goal by the prices -/
theorem Inv.worth (I : Inv n (cnt + n + 1) (av cnt n row bd) t) {j : Nat} (hj : j < cnt) : t.z j = S n (fun i => row j i * t.z (cnt + i)) - bd j * t.d := by
  rw [I.goal_comb (j := j) (by omega) (q := fun i => cnt + i) (c := fun i => row j i) (u := - bd j) (N := n) (fun i hi => by show cnt + i < _; omega) fun m hm => ?_]
  · rw [Int.neg_mul]; omega
  · rw [by_units (n + 1) (av cnt n row bd j) hm]
    show S n _ + av cnt n row bd j n * unit n m = _
    rw [av_bd hj]
    congr 1
    exact S_congr fun k hk => by rw [av_row hj hk, av_unit hk]
end
end Mx
set_option linter.all false
/-! Plain Lean: stocks, what is held, what is under way, events; the value of it all. -/
namespace Mh
abbrev IL := List Int
def at0 (xs : IL) (i : Nat) : Int := xs.getD i 0
def lplus (xs ys : IL) : IL := (List.range xs.length).map fun i => at0 xs i + at0 ys i
def lless (xs ys : IL) : IL := (List.range xs.length).map fun i => at0 xs i - at0 ys i
def lcov (xs ys : IL) : Bool := (List.range xs.length).all fun i => decide (at0 ys i ≤ at0 xs i)
def val (xs ps : IL) : Int := ((List.range ps.length).map fun k => at0 xs k * at0 ps k).sum
def zero (n : Nat) : IL := List.replicate n 0
/-- of n entries, none negative -/
structure Ok (n : Nat) (xs : IL) : Prop where
  len : xs.length = n
  nn : ∀ i, i < n → 0 ≤ at0 xs i
theorem lplus_len (xs ys : IL) : (lplus xs ys).length = xs.length := by simp [lplus]
theorem lless_len (xs ys : IL) : (lless xs ys).length = xs.length := by simp [lless]
theorem at0_map {n : Nat} {f : Nat → Int} {i : Nat} (h : i < n) : at0 ((List.range n).map f) i = f i := by simp [at0, List.getD_eq_getElem?_getD, h]
theorem lplus_at {xs ys : IL} {i : Nat} (h : i < xs.length) : at0 (lplus xs ys) i = at0 xs i + at0 ys i := at0_map h
theorem lless_at {xs ys : IL} {i : Nat} (h : i < xs.length) : at0 (lless xs ys) i = at0 xs i - at0 ys i := at0_map h
theorem zero_at {n i : Nat} : at0 (zero n) i = 0 := by
  simp only [at0, zero, List.getD_eq_getElem?_getD, List.getElem?_replicate]
  split <;> rfl
theorem zero_len {n : Nat} : (zero n).length = n := by simp [zero]
theorem Ok.zero (n : Nat) : Ok n (zero n) := ⟨zero_len, fun i _ => by rw [zero_at]; exact Int.le_refl _⟩
theorem Ok.plus {n : Nat} {xs ys : IL} (a : Ok n xs) (b : Ok n ys) : Ok n (lplus xs ys) := ⟨by rw [lplus_len, a.len], fun i h => by rw [lplus_at (by rw [a.len]; exact h)]; have := a.nn i h; have := b.nn i h; omega⟩
theorem lcov_iff {xs ys : IL} : lcov xs ys = true ↔ ∀ i, i < xs.length → at0 ys i ≤ at0 xs i := by simp [lcov]
theorem Ok.less {n : Nat} {xs ys : IL} (a : Ok n xs) (c : lcov xs ys = true) : Ok n (lless xs ys) := ⟨by rw [lless_len, a.len], fun i h => by
  rw [lless_at (by rw [a.len]; exact h)]
  have := lcov_iff.mp c i (by rw [a.len]; exact h)
  omega⟩
/-! sums -/
theorem sum_congr {α : Type} {l : List α} {f g : α → Int} (h : ∀ x ∈ l, f x = g x) : (l.map f).sum = (l.map g).sum := by rw [List.map_congr_left h]
theorem sum_add {α : Type} (l : List α) (f g : α → Int) : (l.map fun x => f x + g x).sum = (l.map f).sum + (l.map g).sum := by
  induction l with
  | nil => rfl
  | cons a l ih => simp only [List.map_cons, List.sum_cons]; rw [ih]; omega
theorem sum_sub {α : Type} (l : List α) (f g : α → Int) : (l.map fun x => f x - g x).sum = (l.map f).sum - (l.map g).sum := by
  induction l with
  | nil => rfl
  | cons a l ih => simp only [List.map_cons, List.sum_cons]; rw [ih]; omega
theorem sum_le {α : Type} {l : List α} {f g : α → Int} (h : ∀ x ∈ l, f x ≤ g x) : (l.map f).sum ≤ (l.map g).sum := by
  induction l with
  | nil => exact Int.le_refl _
  | cons a l ih => simp only [List.map_cons, List.sum_cons]; have := ih fun x hx => h x (List.mem_cons_of_mem _ hx); have := h a (List.mem_cons_self ..); omega
theorem sum_nn {α : Type} {l : List α} {f : α → Int} (h : ∀ x ∈ l, 0 ≤ f x) : 0 ≤ (l.map f).sum := by
  induction l with
  | nil => exact Int.le_refl _
  | cons a l ih => simp only [List.map_cons, List.sum_cons]; have := ih fun x hx => h x (List.mem_cons_of_mem _ hx); have := h a (List.mem_cons_self ..); omega
theorem sum_one {l : List Nat} {f : Nat → Int} {k : Nat} (hk : k ∈ l) (h : ∀ x ∈ l, 0 ≤ f x) : f k ≤ (l.map f).sum := by
  induction l with
  | nil => cases hk
  | cons a l ih =>
    simp only [List.map_cons, List.sum_cons]
    have h1 := h a (List.mem_cons_self ..)
    have h2 : 0 ≤ (l.map f).sum := sum_nn fun x hx => h x (List.mem_cons_of_mem _ hx)
    rcases List.mem_cons.mp hk with rfl | hk
    · omega
    · have := ih hk fun x hx => h x (List.mem_cons_of_mem _ hx)
      omega
theorem sum_mulr {α : Type} (l : List α) (f : α → Int) (c : Int) : (l.map f).sum * c = (l.map fun x => f x * c).sum := by
  induction l with
  | nil => simp
  | cons a l ih => simp only [List.map_cons, List.sum_cons]; rw [Int.add_mul, ih]
theorem perm_sum {l m : List Int} (h : l.Perm m) : l.sum = m.sum := by
  induction h with
  | nil => rfl
  | cons x _ ih => simp only [List.sum_cons]; rw [ih]
  | swap x y l => simp only [List.sum_cons]; omega
  | trans _ _ h1 h2 => rw [h1, h2]
theorem val_plus {n : Nat} {xs ys ps : IL} (hx : xs.length = n) (hp : ps.length = n) : val (lplus xs ys) ps = val xs ps + val ys ps := by
  unfold val
  rw [← sum_add]
  refine sum_congr fun k hk => ?_
  have hk := List.mem_range.mp hk
  rw [lplus_at (by omega), Int.add_mul]
theorem val_less {n : Nat} {xs ys ps : IL} (hx : xs.length = n) (hp : ps.length = n) : val (lless xs ys) ps = val xs ps - val ys ps := by
  unfold val
  rw [← sum_sub]
  refine sum_congr fun k hk => ?_
  have hk := List.mem_range.mp hk
  rw [lless_at (by omega), Int.sub_mul]
theorem val_zero {n : Nat} {ps : IL} : val (zero n) ps = 0 := by
  unfold val
  have e : ((List.range ps.length).map fun k => at0 (zero n) k * at0 ps k) = (List.range ps.length).map fun _ => 0 := List.map_congr_left fun k _ => by rw [zero_at, Int.zero_mul]
  rw [e]
  generalize List.range ps.length = l
  induction l with
  | nil => rfl
  | cons a l ih => simp only [List.map_cons, List.sum_cons, ih]; rfl
theorem val_le {n : Nat} {xs ys ps : IL} (hp : Ok n ps) (h : ∀ i, i < n → at0 xs i ≤ at0 ys i) : val xs ps ≤ val ys ps := by
  unfold val
  refine sum_le fun k hk => ?_
  have hk := List.mem_range.mp hk
  rw [hp.len] at hk
  exact Int.mul_le_mul_of_nonneg_right (h k hk) (hp.nn k hk)
/-! mappings as lists of pairs -/
section
variable {κ α : Type} [DecidableEq κ]
def aget (l : List (κ × α)) (k : κ) : Option α := (l.find? fun kv => decide (kv.1 = k)).map (·.2)
def aput (l : List (κ × α)) (k : κ) (v : α) : List (κ × α) := if (l.any fun kv => decide (kv.1 = k)) = true then l.map (fun kv => if kv.1 = k then (kv.1, v) else kv) else l ++ [(k, v)]
def adrop (l : List (κ × α)) (k : κ) : List (κ × α) := l.filter fun kv => decide (kv.1 ≠ k)
theorem aget_nil {k : κ} : aget ([] : List (κ × α)) k = none := rfl
theorem aget_cons {p : κ × α} {l : List (κ × α)} {k : κ} : aget (p :: l) k = if p.1 = k then some p.2 else aget l k := by
  unfold aget
  rw [List.find?_cons]
  by_cases h : p.1 = k
  · simp [h]
  · simp [h]
theorem aget_mem {l : List (κ × α)} {k : κ} {v : α} (h : aget l k = some v) : (k, v) ∈ l := by
  induction l with
  | nil => cases h
  | cons p l ih =>
    rw [aget_cons] at h
    split at h
    · rename_i e
      cases h
      rw [← e]
      exact List.mem_cons_self ..
    · exact List.mem_cons_of_mem _ (ih h)
theorem aget_of {l : List (κ × α)} {k : κ} {v : α} (nd : (l.map (·.1)).Nodup) (h : (k, v) ∈ l) : aget l k = some v := by
  induction l with
  | nil => cases h
  | cons p l ih =>
    rw [aget_cons]
    rw [List.map_cons, List.nodup_cons] at nd
    rcases List.mem_cons.mp h with e | h
    · rw [← e, if_pos rfl]
    · rw [if_neg fun e => nd.1 (by rw [e]; exact List.mem_map_of_mem (f := (·.1)) h)]
      exact ih nd.2 h
theorem aget_none {l : List (κ × α)} {k : κ} : aget l k = none ↔ k ∉ l.map (·.1) := by
  induction l with
  | nil => simp [aget_nil]
  | cons p l ih =>
    rw [aget_cons, List.map_cons, List.mem_cons]
    by_cases h : p.1 = k
    · rw [if_pos h]; simp [h]
    · rw [if_neg h, ih]
      simp [Ne.symm h]
theorem aput_keys {l : List (κ × α)} {k : κ} {v : α} : (aput l k v).map (·.1) = if k ∈ l.map (·.1) then l.map (·.1) else l.map (·.1) ++ [k] := by
  unfold aput
  have e : ((l.any fun kv => decide (kv.1 = k)) = true) ↔ k ∈ l.map (·.1) := by simp
  by_cases h : k ∈ l.map (·.1)
  · rw [if_pos (e.mpr h), if_pos h, List.map_map]
    refine List.map_congr_left fun x _ => ?_
    show (if x.1 = k then (x.1, v) else x).1 = x.1
    split <;> rfl
  · rw [if_neg (fun z => h (e.mp z)), if_neg h, List.map_append]
    rfl
theorem aput_nodup {l : List (κ × α)} {k : κ} {v : α} (h : (l.map (·.1)).Nodup) : ((aput l k v).map (·.1)).Nodup := by
  rw [aput_keys]
  split
  · exact h
  · rename_i hk
    rw [List.nodup_append]
    exact ⟨h, by simp, fun a ha b hb => by
      simp at hb
      subst hb
      exact fun e => hk (e ▸ ha)⟩
theorem aput_mem {l : List (κ × α)} {k : κ} {v : α} {x : κ × α} (h : x ∈ aput l k v) : x ∈ l ∨ x = (k, v) := by
  unfold aput at h
  split at h
  · obtain ⟨y, hy, e⟩ := List.mem_map.mp h
    split at e
    · rename_i ek
      right
      rw [← e, ek]
    · left
      rw [← e]
      exact hy
  · rcases List.mem_append.mp h with h | h
    · exact .inl h
    · right
      simpa using h
theorem aget_aput {l : List (κ × α)} {k k' : κ} {v : α} : aget (aput l k v) k' = if k = k' then some v else aget l k' := by
  unfold aput
  by_cases h : (l.any fun kv => decide (kv.1 = k)) = true
  · rw [if_pos h]
    have hk : k ∈ l.map (·.1) := by simpa using h
    clear h
    induction l with
    | nil => simp at hk
    | cons p l ih =>
      rw [List.map_cons, aget_cons, aget_cons]
      by_cases hp : p.1 = k
      · rw [if_pos hp]
        show (if p.1 = k' then some v else _) = _
        by_cases hkk : k = k'
        · rw [if_pos hkk, if_pos (hp.trans hkk)]
        · rw [if_neg hkk, if_neg (fun z => hkk (hp.symm.trans z)), if_neg (fun z => hkk (hp.symm.trans z))]
          by_cases hin : k ∈ l.map (·.1)
          · rw [ih hin, if_neg hkk]
          · congr 1
            have e : (l.map fun kv => if kv.1 = k then (kv.1, v) else kv) = l.map id := List.map_congr_left fun x hx => by
              rw [if_neg fun z => hin (by rw [← z]; exact List.mem_map_of_mem (f := (·.1)) hx)]
              rfl
            rw [e, List.map_id]
      · rw [if_neg hp]
        have hk' : k ∈ l.map (·.1) := by
          rw [List.map_cons, List.mem_cons] at hk
          rcases hk with e | hk
          · exact absurd e.symm hp
          · exact hk
        by_cases hkk : p.1 = k'
        · rw [if_pos hkk, if_pos hkk, if_neg (fun z => hp (hkk.trans z.symm))]
        · rw [if_neg hkk, if_neg hkk, ih hk']
  · rw [if_neg h]
    have hk : k ∉ l.map (·.1) := by simpa using h
    clear h
    induction l with
    | nil => show aget [(k, v)] k' = _; rw [aget_cons]
    | cons p l ih =>
      rw [List.cons_append, aget_cons, aget_cons]
      rw [List.map_cons, List.mem_cons] at hk
      by_cases hkk : p.1 = k'
      · rw [if_pos hkk, if_pos hkk, if_neg (fun z => hk (.inl (by rw [z, hkk])))]
      · rw [if_neg hkk, if_neg hkk, ih fun z => hk (.inr z)]
theorem aget_adrop {l : List (κ × α)} {k k' : κ} : aget (adrop l k) k' = if k = k' then none else aget l k' := by
  induction l with
  | nil => unfold adrop; simp [aget_nil]
  | cons p l ih =>
    unfold adrop at ih ⊢
    by_cases hp : p.1 = k
    · rw [List.filter_cons_of_neg (by simp [hp]), ih, aget_cons]
      by_cases hkk : k = k'
      · rw [if_pos hkk, if_pos hkk]
      · rw [if_neg hkk, if_neg hkk, if_neg (fun z => hkk (hp.symm.trans z))]
    · rw [List.filter_cons_of_pos (by simp [hp]), aget_cons, aget_cons, ih]
      by_cases hkk : p.1 = k'
      · rw [if_pos hkk, if_pos hkk, if_neg (fun z => hp (by rw [hkk, z]))]
      · rw [if_neg hkk, if_neg hkk]
theorem adrop_nodup {l : List (κ × α)} {k : κ} (h : (l.map (·.1)).Nodup) : ((adrop l k).map (·.1)).Nodup := h.sublist (List.Sublist.map _ List.filter_sublist)
theorem adrop_mem {l : List (κ × α)} {k : κ} {x : κ × α} (h : x ∈ adrop l k) : x ∈ l := (List.mem_filter.mp h).1
def tot (f : α → Int) (l : List (κ × α)) : Int := (l.map fun e => f e.2).sum
theorem tot_aput {f : α → Int} {l : List (κ × α)} {k : κ} {v : α} (nd : (l.map (·.1)).Nodup) : tot f (aput l k v) = tot f l - (match aget l k with | some u => f u | none => 0) + f v := by
  unfold tot aput
  by_cases h : (l.any fun kv => decide (kv.1 = k)) = true
  · rw [if_pos h]
    have hk : k ∈ l.map (·.1) := by simpa using h
    clear h
    induction l with
    | nil => simp at hk
    | cons p l ih =>
      rw [List.map_cons, List.nodup_cons] at nd
      simp only [List.map_cons, List.sum_cons]
      rw [aget_cons]
      by_cases hp : p.1 = k
      · rw [if_pos hp, if_pos hp]
        have e : (l.map fun kv => if kv.1 = k then (kv.1, v) else kv) = l.map id := List.map_congr_left fun x hx => by
          rw [if_neg fun z => nd.1 (by rw [hp, ← z]; exact List.mem_map_of_mem (f := (·.1)) hx)]
          rfl
        rw [e, List.map_id]
        simp only
        omega
      · rw [if_neg hp, if_neg hp]
        have hk' : k ∈ l.map (·.1) := by
          rw [List.map_cons, List.mem_cons] at hk
          rcases hk with e | hk
          · exact absurd e.symm hp
          · exact hk
        have := ih nd.2 hk'
        omega
  · rw [if_neg h]
    have hk : k ∉ l.map (·.1) := by simpa using h
    rw [aget_none.mpr hk, List.map_append, List.sum_append]
    simp
theorem tot_adrop {f : α → Int} {l : List (κ × α)} {k : κ} (nd : (l.map (·.1)).Nodup) : tot f (adrop l k) = tot f l - (match aget l k with | some u => f u | none => 0) := by
  unfold tot adrop
  induction l with
  | nil => simp [aget_nil]
  | cons p l ih =>
    rw [List.map_cons, List.nodup_cons] at nd
    rw [aget_cons]
    by_cases hp : p.1 = k
    · rw [List.filter_cons_of_neg (by simp [hp]), if_pos hp]
      have e : l.filter (fun kv => decide (kv.1 ≠ k)) = l := List.filter_eq_self.mpr fun x hx => by
        simp only [decide_eq_true_eq]
        exact fun z => nd.1 (by rw [hp, ← z]; exact List.mem_map_of_mem (f := (·.1)) hx)
      rw [e]
      simp only [List.map_cons, List.sum_cons]
      omega
    · rw [List.filter_cons_of_pos (by simp [hp]), if_neg hp]
      simp only [List.map_cons, List.sum_cons]
      have := ih nd.2
      omega
end
end Mh
set_option linter.all false
/-! Plain: books, events, what is held and under way; the value never exceeds the forgeries. -/
namespace Mh
open PySem
abbrev Pl := Str × Str
inductive Ev where
  | make (p : Pl) (m : Nat) (g : IL) | hand (p : Pl) (o : Str) (g : IL) | send (p : Pl) (t : Int) (g : IL) | land (p : Pl) (t : Int) | forge (p : Pl) (g : IL)
structure Mv where
  name : Str
  take : IL
  low : IL
  high : IL
instance : Inhabited Mv := ⟨⟨"", [], [], []⟩⟩
structure Bk where
  names : List Str
  mvs : List Mv
def Bk.n (b : Bk) : Nat := b.names.length
structure Row where
  taker : Option Pl
  take : IL
  getter : Option Pl
  give : IL
abbrev Held := List (Pl × IL)
abbrev Way := List (Int × IL)
structure HS where
  held : Held
  way : Way
/-- what the send with the ticket sent -/
def sentOf (hist : List Ev) (t : Int) : Option IL := hist.findSome? fun e => match e with
  | .send _ u g => if u = t then some g else none
  | _ => none
def flow (b : Bk) (hist : List Ev) : Ev → Row
  | .make p m g => ⟨some p, (b.mvs.getD m default).take, some p, g⟩
  | .hand p o g => ⟨some p, g, some (p.1, o), g⟩
  | .send p _ g => ⟨some p, g, none, zero b.n⟩
  | .land p t => ⟨none, zero b.n, some p, (sentOf hist t).getD []⟩
  | .forge p g => ⟨none, zero b.n, some p, g⟩
def hget (n : Nat) (h : Held) (p : Pl) : IL := (aget h p).getD (zero n)
def takeOut (h : Held) (r : Row) : Held := match r.taker with
  | some p => aput h p (lless (hget r.take.length h p) r.take)
  | none => h
def carry (h : Held) (r : Row) : Held := match r.getter with
  | some p => aput (takeOut h r) p (lplus (hget r.give.length (takeOut h r) p) r.give)
  | none => takeOut h r
def possible (h : Held) (r : Row) : Bool := match r.taker with
  | some p => lcov (hget r.take.length h p) r.take
  | none => true
def wayStep (w : Way) : Ev → Way
  | .send _ t g => aput w t g
  | .land _ t => adrop w t
  | _ => w
def step (b : Bk) (hist : List Ev) (s : HS) (e : Ev) : HS := ⟨carry s.held (flow b hist e), wayStep s.way e⟩
/-- all that is held and under way is as it should be -/
structure SOk (n : Nat) (s : HS) : Prop where
  hn : (s.held.map (·.1)).Nodup
  wn : (s.way.map (·.1)).Nodup
  hv : ∀ e ∈ s.held, Ok n e.2 ∧ e.1 ∈ DL.places
  wv : ∀ e ∈ s.way, Ok n e.2
/-- an event as drawn -/
def EOk (b : Bk) : Ev → Prop
  | .make p m g => p ∈ DL.places ∧ m < b.mvs.length ∧ Ok b.n g ∧ ∀ i, i < b.n → at0 g i ≤ at0 (b.mvs.getD m default).high i
  | .hand p o g => p ∈ DL.places ∧ (p.1, o) ∈ DL.places ∧ Ok b.n g
  | .send p _ g => p ∈ DL.places ∧ Ok b.n g
  | .land p _ => p ∈ DL.places
  | .forge p g => p ∈ DL.places ∧ Ok b.n g
structure BOk (b : Bk) : Prop where
  n1 : 1 ≤ b.n
  n6 : b.n ≤ 6
  m8 : b.mvs.length ≤ 8
  tk : ∀ m, m ∈ b.mvs → Ok b.n m.take ∧ ∀ i, i < b.n → at0 m.take i ≤ 5
  hi : ∀ m, m ∈ b.mvs → Ok b.n m.high ∧ ∀ i, i < b.n → at0 m.high i ≤ 5
  lo : ∀ m, m ∈ b.mvs → Ok b.n m.low ∧ ∀ i, i < b.n → at0 m.low i ≤ at0 m.high i
/-- the event fits the state: the row can be carried out; its ticket is new, or under way -/
structure Fits (b : Bk) (hist : List Ev) (s : HS) (e : Ev) : Prop where
  ok : EOk b e
  pos : possible s.held (flow b hist e) = true
  send : ∀ p t g, e = .send p t g → aget s.way t = none
  land : ∀ p t, e = .land p t → ∃ g, aget s.way t = some g ∧ sentOf hist t = some g
/-- prices by which only forgeries gain -/
structure POk (b : Bk) (ps : IL) : Prop where
  ok : Ok b.n ps
  mv : ∀ m ∈ b.mvs, val m.high ps ≤ val m.take ps
def worthOf (ps : IL) : Ev → Int
  | .forge _ g => val g ps
  | _ => 0
def total (ps : IL) (s : HS) : Int := tot (fun xs => val xs ps) s.held + tot (fun xs => val xs ps) s.way
section
variable {b : Bk} {hist : List Ev} {s : HS} {e : Ev} {ps : IL}
theorem mv_mem {m : Nat} (h : m < b.mvs.length) : b.mvs.getD m default ∈ b.mvs := by
  rw [List.getD_eq_getElem?_getD, List.getElem?_eq_getElem h]
  exact List.getElem_mem h
theorem hget_ok {n : Nat} (h : SOk n s) (p : Pl) : Ok n (hget n s.held p) := by
  unfold hget
  cases e : aget s.held p with
  | none => exact Ok.zero n
  | some v => exact (h.hv _ (aget_mem e)).1
/-- the row's shape -/
structure ROk (n : Nat) (h : Held) (r : Row) : Prop where
  tl : r.take.length = n
  gv : ∀ p, r.getter = some p → Ok n r.give ∧ p ∈ DL.places
  tp : ∀ p, r.taker = some p → p ∈ DL.places ∧ Ok n r.take
theorem Fits.row (B : BOk b) (F : Fits b hist s e) (h : SOk b.n s) : ROk b.n s.held (flow b hist e) := by
  have ok := F.ok
  cases e with
  | make p m g =>
    obtain ⟨h1, h2, h3, h4⟩ := ok
    have t := B.tk _ (mv_mem h2)
    exact ⟨t.1.len, fun q hq => by cases hq; exact ⟨h3, h1⟩, fun q hq => by cases hq; exact ⟨h1, t.1⟩⟩
  | hand p o g =>
    obtain ⟨h1, h2, h3⟩ := ok
    exact ⟨h3.len, fun q hq => by cases hq; exact ⟨h3, h2⟩, fun q hq => by cases hq; exact ⟨h1, h3⟩⟩
  | send p t g =>
    obtain ⟨h1, h3⟩ := ok
    exact ⟨h3.len, fun q hq => (by cases hq), fun q hq => by cases hq; exact ⟨h1, h3⟩⟩
  | land p t =>
    obtain ⟨g, h1, h2⟩ := F.land p t rfl
    refine ⟨zero_len, fun q hq => ?_, fun q hq => by cases hq⟩
    cases hq
    show Ok b.n ((sentOf hist t).getD []) ∧ _
    rw [h2]
    exact ⟨h.wv _ (aget_mem h1), ok⟩
  | forge p g =>
    obtain ⟨h1, h3⟩ := ok
    exact ⟨zero_len, fun q hq => by cases hq; exact ⟨h3, h1⟩, fun q hq => by cases hq⟩
theorem takeOut_ok {n : Nat} {w : Way} {r : Row} (h : SOk n s) (R : ROk n s.held r) (hp : possible s.held r = true) : SOk n ⟨takeOut s.held r, w⟩ ∨ True := .inr trivial
/-- what is held behind the taking -/
theorem takeOut_sok {n : Nat} {r : Row} (h : SOk n s) (R : ROk n s.held r) (hp : possible s.held r = true) : SOk n ⟨takeOut s.held r, s.way⟩ := by
  unfold takeOut
  cases ht : r.taker with
  | none => exact h
  | some p =>
    have tl := R.tl
    obtain ⟨hpl, tok⟩ := R.tp p ht
    unfold possible at hp
    rw [ht] at hp
    simp only at hp
    rw [tl] at hp
    refine ⟨aput_nodup h.hn, h.wn, fun e he => ?_, h.wv⟩
    rcases aput_mem he with he | he
    · exact h.hv e he
    · subst he
      rw [tl]
      exact ⟨(hget_ok h p).less hp, hpl⟩
theorem carry_sok {n : Nat} {r : Row} (h : SOk n s) (R : ROk n s.held r) (hp : possible s.held r = true) : SOk n ⟨carry s.held r, s.way⟩ := by
  have h1 := takeOut_sok h R hp
  unfold carry
  cases hg : r.getter with
  | none => exact h1
  | some p =>
    obtain ⟨gok, hpl⟩ := R.gv p hg
    refine ⟨aput_nodup h1.hn, h1.wn, fun e he => ?_, h1.wv⟩
    rcases aput_mem he with he | he
    · exact h1.hv e he
    · subst he
      simp only
      rw [gok.len]
      exact ⟨(hget_ok h1 p).plus gok, hpl⟩
theorem step_sok (B : BOk b) (h : SOk b.n s) (F : Fits b hist s e) : SOk b.n (step b hist s e) := by
  have h1 := carry_sok h (F.row B h) F.pos
  refine ⟨h1.hn, ?_, h1.hv, ?_⟩
  · cases e with
    | send p t g => exact aput_nodup h.wn
    | land p t => exact adrop_nodup h.wn
    | make p m g => exact h.wn
    | hand p o g => exact h.wn
    | forge p g => exact h.wn
  · intro x hx
    cases e with
    | send p t g =>
      rcases aput_mem hx with hx | hx
      · exact h.wv x hx
      · subst hx; exact F.ok.2
    | land p t => exact h.wv x (adrop_mem hx)
    | make p m g => exact h.wv x hx
    | hand p o g => exact h.wv x hx
    | forge p g => exact h.wv x hx
/-- the value of what is held, behind a row -/
theorem tot_carry {n : Nat} {r : Row} (hp : ps.length = n) (h : SOk n s) (R : ROk n s.held r) (hps : possible s.held r = true) :
    tot (fun xs => val xs ps) (carry s.held r) = tot (fun xs => val xs ps) s.held - (if r.taker.isSome then val r.take ps else 0) + (if r.getter.isSome then val r.give ps else 0) := by
  have h1 := takeOut_sok h R hps
  have e1 : tot (fun xs => val xs ps) (takeOut s.held r) = tot (fun xs => val xs ps) s.held - (if r.taker.isSome then val r.take ps else 0) := by
    unfold takeOut
    cases ht : r.taker with
    | none => simp
    | some p =>
      simp only [Option.isSome_some, if_true]
      rw [tot_aput h.hn, R.tl, val_less (hget_ok h p).len hp]
      unfold hget
      cases ha : aget s.held p with
      | none => simp only [Option.getD_none, val_zero]; omega
      | some v => simp only [Option.getD_some]; omega
  unfold carry
  cases hg : r.getter with
  | none => simp only [Option.isSome_none]; rw [e1]; simp
  | some p =>
    simp only [Option.isSome_some, if_true]
    obtain ⟨gok, hpl⟩ := R.gv p hg
    rw [tot_aput h1.hn, e1, gok.len, val_plus (hget_ok h1 p).len hp]
    unfold hget
    simp only
    cases ha : aget (takeOut s.held r) p with
    | none => simp only [Option.getD_none, val_zero]; omega
    | some v => simp only [Option.getD_some]; omega
/-- a step adds no more than the forged -/
theorem step_total (B : BOk b) (P : POk b ps) (h : SOk b.n s) (F : Fits b hist s e) : total ps (step b hist s e) ≤ total ps s + worthOf ps e := by
  have R := F.row B h
  have hc := tot_carry P.ok.len h R F.pos
  show tot _ (carry s.held (flow b hist e)) + tot _ (wayStep s.way e) ≤ tot _ s.held + tot _ s.way + worthOf ps e
  rw [hc]
  cases e with
  | make p m g =>
    obtain ⟨h1, h2, h3, h4⟩ := F.ok
    have q1 : val g ps ≤ val (b.mvs.getD m default).high ps := val_le P.ok h4
    have q2 := P.mv _ (mv_mem h2)
    show _ - val (b.mvs.getD m default).take ps + val g ps + tot _ s.way ≤ _ + 0
    omega
  | hand p o g =>
    show _ - val g ps + val g ps + tot _ s.way ≤ _ + 0
    omega
  | send p t g =>
    show _ - val g ps + 0 + tot (fun xs => val xs ps) (aput s.way t g) ≤ _ + 0
    rw [tot_aput h.wn, F.send p t g rfl]
    simp only
    omega
  | land p t =>
    obtain ⟨g, h1, h2⟩ := F.land p t rfl
    show _ - 0 + val ((sentOf hist t).getD []) ps + tot (fun xs => val xs ps) (adrop s.way t) ≤ _ + 0
    rw [tot_adrop h.wn, h1, h2]
    simp only [Option.getD_some]
    omega
  | forge p g =>
    show _ - 0 + val g ps + tot _ s.way ≤ _ + val g ps
    omega
end
end Mh
set_option linter.all false
/-! Plain: histories; what stands behind a strike. -/
namespace Mh
open PySem
def tickets (hs : List Ev) : List Int := hs.filterMap fun e => match e with
  | .send _ t _ => some t
  | _ => none
inductive Good (b : Bk) : List Ev → HS → Prop
  | nil : Good b [] ⟨[], []⟩
  | snoc {hs : List Ev} {s : HS} {e : Ev} (g : Good b hs s) (F : Fits b (hs ++ [e]) s e) (new : ∀ p t g, e = .send p t g → t ∉ tickets hs) : Good b (hs ++ [e]) (step b (hs ++ [e]) s e)
theorem sok0 (n : Nat) : SOk n ⟨[], []⟩ := ⟨List.nodup_nil, List.nodup_nil, fun e h => (by cases h), fun e h => (by cases h)⟩
theorem sentOf_app {hs r : List Ev} {t : Int} {g : IL} (h : sentOf hs t = some g) : sentOf (hs ++ r) t = some g := by
  unfold sentOf at h ⊢
  rw [List.findSome?_append, h]
  rfl
theorem sentOf_new {hs : List Ev} {t : Int} (h : t ∉ tickets hs) : sentOf hs t = none := by
  induction hs with
  | nil => rfl
  | cons e hs ih =>
    unfold sentOf at ih ⊢
    unfold tickets at ih h
    rw [List.findSome?_cons]
    cases e with
    | send p u g =>
      rw [List.filterMap_cons] at h
      simp only [List.mem_cons, not_or] at h
      simp only
      rw [if_neg fun z => h.1 z.symm]
      exact ih h.2
    | make p m g => exact ih (by simpa using h)
    | hand p o g => exact ih (by simpa using h)
    | land p u => exact ih (by simpa using h)
    | forge p g => exact ih (by simpa using h)
section
variable {b : Bk} {hs : List Ev} {s : HS} {ps : IL}
theorem Good.sok (B : BOk b) (g : Good b hs s) : SOk b.n s := by
  induction g with
  | nil => exact sok0 _
  | snoc g F new ih => exact step_sok B ih F
/-- what is under way was sent -/
theorem Good.way (g : Good b hs s) : ∀ t x, aget s.way t = some x → sentOf hs t = some x := by
  induction g with
  | nil => intro t x h; cases h
  | @snoc hs s e g F new ih =>
    intro t x h
    have old : aget s.way t = some x → sentOf (hs ++ [e]) t = some x := fun q => sentOf_app (ih t x q)
    cases e with
    | send p u y =>
      have h : aget (aput s.way u y) t = some x := h
      rw [aget_aput] at h
      by_cases hu : u = t
      · rw [if_pos hu] at h
        cases h
        unfold sentOf
        rw [List.findSome?_append]
        have z := sentOf_new (new p u x rfl)
        unfold sentOf at z
        rw [hu] at z
        rw [z]
        simp [hu]
      · rw [if_neg hu] at h
        exact old h
    | land p u =>
      have h : aget (adrop s.way u) t = some x := h
      rw [aget_adrop] at h
      by_cases hu : u = t
      · rw [if_pos hu] at h; cases h
      · rw [if_neg hu] at h; exact old h
    | make p m y => exact old h
    | hand p o y => exact old h
    | forge p y => exact old h
/-- the events fit with a longer history, too -/
theorem Fits.more {e : Ev} (g : Good b hs s) (F : Fits b (hs ++ [e]) s e) (r : List Ev) : flow b (hs ++ [e] ++ r) e = flow b (hs ++ [e]) e ∧ Fits b (hs ++ [e] ++ r) s e := by
  have fl : flow b (hs ++ [e] ++ r) e = flow b (hs ++ [e]) e := by
    cases e with
    | land p t =>
      obtain ⟨x, h1, h2⟩ := F.land p t rfl
      show Row.mk _ _ _ ((sentOf _ t).getD []) = Row.mk _ _ _ ((sentOf _ t).getD [])
      rw [sentOf_app h2, h2]
    | make p m y => rfl
    | hand p o y => rfl
    | send p t y => rfl
    | forge p y => rfl
  refine ⟨fl, F.ok, by rw [fl]; exact F.pos, F.send, fun p t e' => ?_⟩
  obtain ⟨x, h1, h2⟩ := F.land p t e'
  exact ⟨x, h1, sentOf_app h2⟩
theorem step_more {e : Ev} (g : Good b hs s) (F : Fits b (hs ++ [e]) s e) (r : List Ev) : step b (hs ++ [e] ++ r) s e = step b (hs ++ [e]) s e := by
  unfold step
  rw [(F.more g r).1]
/-- the states on the way -/
theorem Good.at (g : Good b hs s) : ∀ i, i ≤ hs.length → ∃ s', Good b (hs.take i) s' ∧ (i = hs.length → s' = s) ∧ ∀ e, hs[i]? = some e → Fits b hs s' e ∧ (∀ p t x, e = .send p t x → t ∉ tickets (hs.take i)) ∧ Good b (hs.take (i + 1)) (step b hs s' e) := by
  induction g with
  | nil => intro i hi; exact ⟨_, by simpa using Good.nil, fun _ => rfl, fun e he => by simp at he⟩
  | @snoc hs s e g F new ih =>
    intro i hi
    rw [List.length_append, List.length_singleton] at hi
    by_cases h : i = hs.length + 1
    · subst h
      refine ⟨step b (hs ++ [e]) s e, ?_, fun _ => rfl, fun x hx => ?_⟩
      · rw [List.take_of_length_le (by simp)]
        exact Good.snoc g F new
      · rw [List.getElem?_eq_none (by simp)] at hx; cases hx
    · by_cases h2 : i = hs.length
      · subst h2
        refine ⟨s, by rw [List.take_left]; exact g, fun z => by simp at z, fun x hx => ?_⟩
        have ex : e = x := by simpa using hx
        subst ex
        refine ⟨F, by rw [List.take_left]; exact new, ?_⟩
        rw [List.take_of_length_le (by simp)]
        exact Good.snoc g F new
      · obtain ⟨s', g', _, q⟩ := ih i (by omega)
        have et : ∀ k, k ≤ hs.length → (hs ++ [e]).take k = hs.take k := fun k hk => by rw [List.take_append_of_le_length hk]
        refine ⟨s', by rw [et _ (by omega)]; exact g', fun z => by simp at z; omega, fun x hx => ?_⟩
        rw [List.getElem?_append_left (by omega)] at hx
        obtain ⟨q1, q2, q3⟩ := q x hx
        rw [et _ (by omega), et _ (by omega)]
        -- with the longer history
        have et1 : hs.take (i + 1) = hs.take i ++ [x] := by rw [List.take_add_one, hx]; rfl
        have fl : flow b (hs ++ [e]) x = flow b hs x := by
          cases x with
          | land p t =>
            obtain ⟨y, h1, h2⟩ := q1.land p t rfl
            show Row.mk _ _ _ ((sentOf _ t).getD []) = Row.mk _ _ _ ((sentOf _ t).getD [])
            rw [sentOf_app h2, h2]
          | make p m y => rfl
          | hand p o y => rfl
          | send p t y => rfl
          | forge p y => rfl
        refine ⟨⟨q1.ok, by rw [fl]; exact q1.pos, q1.send, fun p t e' => ?_⟩, q2, ?_⟩
        · obtain ⟨y, h1, h2⟩ := q1.land p t e'
          exact ⟨y, h1, sentOf_app h2⟩
        · unfold step at q3 ⊢
          rw [fl]
          exact q3
/-- one state only -/
theorem Good.uniq (g : Good b hs s) : ∀ {s'}, Good b hs s' → s = s' := by
  induction g with
  | nil =>
    intro s' g'
    generalize h : ([] : List Ev) = l at g'
    cases g' with
    | nil => rfl
    | snoc g F new => simp at h
  | @snoc hs s e g F new ih =>
    intro s' g'
    generalize h : hs ++ [e] = l at g'
    cases g' with
    | nil => simp at h
    | @snoc hs' s2 e' g2 F' new' =>
      obtain ⟨h1, h2⟩ := List.append_inj' h rfl
      simp at h2
      subst h1 h2
      rw [ih g2]
def worths (ps : IL) (hs : List Ev) : Int := (hs.map (worthOf ps)).sum
theorem worths_snoc {e : Ev} : worths ps (hs ++ [e]) = worths ps hs + worthOf ps e := by unfold worths; simp
theorem Good.total (B : BOk b) (P : POk b ps) (g : Good b hs s) : Mh.total ps s ≤ worths ps hs := by
  induction g with
  | nil => exact Int.le_refl _
  | snoc g F new ih =>
    rw [worths_snoc]
    have := step_total B P (g.sok B) F
    omega
theorem worthOf_nn (P : POk b ps) {e : Ev} (h : EOk b e) : 0 ≤ worthOf ps e := by
  cases e with
  | forge p g =>
    have := val_le (n := b.n) (xs := zero b.n) (ys := g) P.ok (fun i hi => by rw [zero_at]; exact h.2.nn i hi)
    rw [val_zero] at this
    show 0 ≤ val g ps
    exact this
  | make p m g => exact Int.le_refl _
  | hand p o g => exact Int.le_refl _
  | send p t g => exact Int.le_refl _
  | land p t => exact Int.le_refl _
/-! ### what the law asks of all that is held -/
/-- the holdings shown, what is under way: the stocks -/
structure Bnd (ps : IL) (stocks : List IL) (worth : Int) : Prop where
  all : (stocks.map fun g => val g ps).sum ≤ worth
  each : ∀ k, k < ps.length → 0 < at0 ps k → (stocks.map fun g => at0 g k).sum * at0 ps k ≤ worth
theorem val_one {n k : Nat} {g : IL} (hg : Ok n g) (hp : Ok n ps) (hk : k < n) : at0 g k * at0 ps k ≤ val g ps := by
  unfold val
  exact sum_one (f := fun k => at0 g k * at0 ps k) (List.mem_range.mpr (by rw [hp.len]; exact hk)) fun x hx => by
    have hx := List.mem_range.mp hx
    rw [hp.len] at hx
    exact Int.mul_nonneg (hg.nn x hx) (hp.nn x hx)
theorem bnd_of {n : Nat} {stocks : List IL} {worth : Int} (hp : Ok n ps) (hs : ∀ g ∈ stocks, Ok n g) (h : (stocks.map fun g => val g ps).sum ≤ worth) : Bnd ps stocks worth := by
  refine ⟨h, fun k hk _ => ?_⟩
  rw [sum_mulr]
  exact Int.le_trans (sum_le fun g hg => val_one (hs g hg) hp (by rw [hp.len] at hk; exact hk)) h
def nz (xs : IL) : Bool := xs.any fun x => x != 0
theorem val_nz {n : Nat} {xs : IL} (h : xs.length = n) (hp : ps.length = n) (hz : nz xs = false) : val xs ps = 0 := by
  have e : val xs ps = val (zero n) ps := by
    unfold val
    refine sum_congr fun k hk => ?_
    have hk := List.mem_range.mp hk
    have : at0 xs k = 0 := by
      have hx : k < xs.length := by omega
      unfold nz at hz
      rw [List.any_eq_false] at hz
      have := hz xs[k] (List.getElem_mem hx)
      have e2 : at0 xs k = xs[k] := by simp [at0, List.getD_eq_getElem?_getD, hx]
      rw [e2]
      simpa using this
    rw [this, zero_at]
  rw [e, val_zero]
/-- the rows shown of s: in some order -/
structure Shows (s : HS) (rows : List (Pl × IL)) (ways : List (Int × IL)) : Prop where
  rows : rows.Perm (s.held.filter fun e => nz e.2)
  ways : ways.Perm s.way
theorem tot_filter {n : Nat} (hp : ps.length = n) : ∀ l : Held, (∀ e ∈ l, e.2.length = n) → ((l.filter fun e => nz e.2).map fun e => val e.2 ps).sum = (l.map fun e => val e.2 ps).sum
  | [], _ => rfl
  | e :: l, h => by
    have ih := tot_filter hp l fun x hx => h x (List.mem_cons_of_mem _ hx)
    cases hz : nz e.2 with
    | true => rw [List.filter_cons_of_pos (by rw [hz])]; simp only [List.map_cons, List.sum_cons]; rw [ih]
    | false =>
      rw [List.filter_cons_of_neg (by rw [hz]; exact Bool.false_ne_true)]
      simp only [List.map_cons, List.sum_cons]
      rw [ih, val_nz (h e (List.mem_cons_self ..)) hp hz]
      omega
theorem Shows.bnd {n : Nat} {rows : List (Pl × IL)} {ways : List (Int × IL)} {worth : Int} (S : Shows s rows ways) (h : SOk n s) (hp : Ok n ps) (hw : Mh.total ps s ≤ worth) : Bnd ps (rows.map (·.2) ++ ways.map (·.2)) worth := by
  refine bnd_of hp (fun g hg => ?_) ?_
  · rcases List.mem_append.mp hg with hg | hg
    · obtain ⟨e, he, rfl⟩ := List.mem_map.mp hg
      exact (h.hv e (List.mem_filter.mp (S.rows.mem_iff.mp he)).1).1
    · obtain ⟨e, he, rfl⟩ := List.mem_map.mp hg
      exact h.wv e (S.ways.mem_iff.mp he)
  · rw [List.map_append, List.sum_append, List.map_map, List.map_map]
    have e1 : (rows.map ((fun g => val g ps) ∘ fun x => x.2)).sum = tot (fun xs => val xs ps) s.held := by
      have z : (rows.map fun e => val e.2 ps).sum = ((s.held.filter fun e => nz e.2).map fun e => val e.2 ps).sum := perm_sum (S.rows.map _)
      exact z.trans (tot_filter hp.len _ fun e he => (h.hv e he).1.len)
    have e2 : (ways.map ((fun g => val g ps) ∘ fun x => x.2)).sum = tot (fun xs => val xs ps) s.way := perm_sum (S.ways.map _)
    rw [e1, e2]
    exact hw
/-! ### strike -/
structure SS where
  held : Held
  stands : List Nat
  struck : List Nat
  sent : List Int
def evAt (hs : List Ev) (i : Nat) : Ev := hs.getD i (.forge ("", "") [])
/-- the event stands -/
def standsAt (b : Bk) (hs : List Ev) (held : Held) (sent : List Int) (e : Ev) : Bool := (match e with | .land _ t => sent.contains t | _ => true) && possible held (flow b hs e)
def sstep (b : Bk) (hs : List Ev) (rec : List Int) (s : SS) (i : Nat) : SS :=
  if rec.contains (i : Int) then s
  else if standsAt b hs s.held s.sent (evAt hs i) then ⟨carry s.held (flow b hs (evAt hs i)), s.stands ++ [i], s.struck, match evAt hs i with | .send _ t _ => s.sent ++ [t] | _ => s.sent⟩
  else { s with struck := s.struck ++ [i] }
def srun (b : Bk) (hs : List Ev) (rec : List Int) (i : Nat) : SS := (List.range i).foldl (sstep b hs rec) ⟨[], [], [], []⟩
theorem srun_succ {rec : List Int} {i : Nat} : srun b hs rec (i + 1) = sstep b hs rec (srun b hs rec i) i := by
  unfold srun
  rw [List.range_succ, List.foldl_append]
  rfl
/-- way_of runs: every landing's ticket is under way -/
def WayRuns : Way → List Ev → Prop
  | _, [] => True
  | w, e :: l => (∀ p t, e = .land p t → ∃ g, aget w t = some g) ∧ WayRuns (wayStep w e) l
theorem WayRuns.snoc : ∀ {l : List Ev} {w : Way} {e : Ev}, WayRuns w l → (∀ p t, e = .land p t → ∃ g, aget (l.foldl wayStep w) t = some g) → WayRuns w (l ++ [e])
  | [], w, e, _, h => ⟨h, trivial⟩
  | x :: l, w, e, h, h2 => ⟨h.1, h.2.snoc h2⟩
def leftOf (ps : IL) (rec : List Int) (hs : List Ev) (i : Nat) : Int := ((List.range i).map fun (j : Nat) => if rec.contains (j : Int) then 0 else worthOf ps (evAt hs j)).sum
/-- what holds on the way -/
structure SI (b : Bk) (ps : IL) (hs : List Ev) (rec : List Int) (i : Nat) (s : SS) (si : HS) : Prop where
  ok : SOk b.n ⟨s.held, (s.stands.map (evAt hs)).foldl wayStep []⟩
  runs : WayRuns [] (s.stands.map (evAt hs))
  iff_ : ∀ t g, aget ((s.stands.map (evAt hs)).foldl wayStep []) t = some g ↔ (aget si.way t = some g ∧ t ∈ s.sent)
  sub : ∀ t ∈ s.sent, t ∈ tickets (hs.take i)
  tot : Mh.total ps ⟨s.held, (s.stands.map (evAt hs)).foldl wayStep []⟩ ≤ leftOf ps rec hs i
theorem evAt_of {i : Nat} {e : Ev} (h : hs[i]? = some e) : evAt hs i = e := by unfold evAt; rw [List.getD_eq_getElem?_getD, h]; rfl
def tkOf : Ev → List Int
  | .send _ t _ => [t]
  | _ => []
theorem tickets_take {i : Nat} {e : Ev} (h : hs[i]? = some e) : tickets (hs.take (i + 1)) = tickets (hs.take i) ++ tkOf e := by
  unfold tickets
  rw [List.take_add_one, h, List.filterMap_append]
  congr 1
  cases e <;> rfl
theorem leftOf_succ {rec : List Int} {i : Nat} : leftOf ps rec hs (i + 1) = leftOf ps rec hs i + (if rec.contains (i : Int) then 0 else worthOf ps (evAt hs i)) := by
  unfold leftOf
  rw [List.range_succ, List.map_append, List.sum_append]
  simp
theorem strike_inv (B : BOk b) (P : POk b ps) (g : Good b hs s) {rec : List Int} (hr : ∀ i : Nat, i < hs.length → rec.contains (i : Int) = true → ∃ p x, evAt hs i = .forge p x) :
    ∀ i, i ≤ hs.length → ∃ si, Good b (hs.take i) si ∧ SI b ps hs rec i (srun b hs rec i) si
  | 0, _ => ⟨_, by simpa using Good.nil, sok0 _, trivial, fun t g => ⟨fun h => (by cases h), fun h => (by cases h.1)⟩, fun t h => (by cases h), (by show (0 : Int) + 0 ≤ 0; omega)⟩
  | i + 1, hi => by
    obtain ⟨si, gi, I⟩ := strike_inv B P g hr i (by omega)
    obtain ⟨s', g', _, q⟩ := g.at i (by omega)
    have es : si = s' := gi.uniq g'
    subst es
    have he : hs[i]? = some (evAt hs i) := by
      unfold evAt
      rw [List.getD_eq_getElem?_getD, List.getElem?_eq_getElem (by omega)]
      rfl
    obtain ⟨F, new, gn⟩ := q _ he
    refine ⟨_, gn, ?_⟩
    rw [srun_succ]
    generalize srun b hs rec i = s at I ⊢
    generalize hev : evAt hs i = e at he F new gn ⊢
    have tk := tickets_take he
    have wnn := worthOf_nn P F.ok
    unfold sstep
    rw [hev]
    by_cases hrec : rec.contains (i : Int) = true
    · -- recalled: a forgery
      rw [if_pos hrec]
      obtain ⟨p, x, hf⟩ := hr i (by omega) hrec
      rw [hev] at hf
      subst hf
      refine ⟨I.ok, I.runs, I.iff_, fun t ht => ?_, ?_⟩
      · rw [tk]; exact List.mem_append_left _ (I.sub t ht)
      · rw [leftOf_succ, if_pos hrec, Int.add_zero]; exact I.tot
    · rw [if_neg hrec]
      by_cases hst : standsAt b hs s.held s.sent e = true
      · -- it stands
        rw [if_pos hst]
        unfold standsAt at hst
        rw [Bool.and_eq_true] at hst
        obtain ⟨h1, h2⟩ := hst
        have hsend : ∀ p t x, e = .send p t x → aget ((s.stands.map (evAt hs)).foldl wayStep []) t = none := fun p t x e' => by
          have z := F.send p t x e'
          cases hq : aget ((s.stands.map (evAt hs)).foldl wayStep []) t with
          | none => rfl
          | some y =>
            rw [((I.iff_ t y).mp hq).1] at z
            cases z
        have hland : ∀ p t, e = .land p t → ∃ x, aget ((s.stands.map (evAt hs)).foldl wayStep []) t = some x ∧ sentOf hs t = some x := fun p t e' => by
          obtain ⟨x, z1, z2⟩ := F.land p t e'
          subst e'
          exact ⟨x, (I.iff_ t x).mpr ⟨z1, by simpa using h1⟩, z2⟩
        have F2 : Fits b hs ⟨s.held, (s.stands.map (evAt hs)).foldl wayStep []⟩ e := ⟨F.ok, h2, hsend, hland⟩
        have ew : ((s.stands ++ [i]).map (evAt hs)).foldl wayStep [] = wayStep ((s.stands.map (evAt hs)).foldl wayStep []) e := by
          rw [List.map_append, List.foldl_append]
          show wayStep _ (evAt hs i) = _
          rw [hev]
        have ok2 := step_sok B I.ok F2
        have tot2 := step_total B P I.ok F2
        refine ⟨?_, ?_, ?_, ?_, ?_⟩
        · show SOk b.n ⟨_, ((s.stands ++ [i]).map (evAt hs)).foldl wayStep []⟩
          rw [ew]; exact ok2
        · show WayRuns [] ((s.stands ++ [i]).map (evAt hs))
          rw [List.map_append]
          refine I.runs.snoc fun p t e' => ?_
          have e' : evAt hs i = .land p t := e'
          rw [hev] at e'
          obtain ⟨x, z1, _⟩ := F2.land p t e'
          exact ⟨x, z1⟩
        · intro t x
          show aget (((s.stands ++ [i]).map (evAt hs)).foldl wayStep []) t = some x ↔ _
          rw [ew]
          cases e with
          | send p u y =>
            show aget (aput _ u y) t = some x ↔ (aget (aput si.way u y) t = some x ∧ t ∈ s.sent ++ [u])
            rw [aget_aput, aget_aput]
            by_cases hu : u = t
            · rw [if_pos hu, if_pos hu, ← hu]; simp
            · rw [if_neg hu, if_neg hu, I.iff_ t x]; simp [Ne.symm hu]
          | land p u =>
            show aget (adrop _ u) t = some x ↔ (aget (adrop si.way u) t = some x ∧ t ∈ s.sent)
            rw [aget_adrop, aget_adrop]
            by_cases hu : u = t
            · rw [if_pos hu, if_pos hu]; simp
            · rw [if_neg hu, if_neg hu, I.iff_ t x]
          | make p m y => exact I.iff_ t x
          | hand p o y => exact I.iff_ t x
          | forge p y => exact I.iff_ t x
        · intro t ht
          rw [tk]
          cases e with
          | send p u y =>
            have ht : t ∈ s.sent ++ [u] := ht
            rcases List.mem_append.mp ht with ht | ht
            · exact List.mem_append_left _ (I.sub t ht)
            · exact List.mem_append_right _ ht
          | land p u => exact List.mem_append_left _ (I.sub t ht)
          | make p m y => exact List.mem_append_left _ (I.sub t ht)
          | hand p o y => exact List.mem_append_left _ (I.sub t ht)
          | forge p y => exact List.mem_append_left _ (I.sub t ht)
        · show Mh.total ps ⟨_, ((s.stands ++ [i]).map (evAt hs)).foldl wayStep []⟩ ≤ _
          rw [ew, leftOf_succ, if_neg hrec, hev]
          refine Int.le_trans tot2 ?_
          have := I.tot
          omega
      · -- struck
        rw [if_neg hst]
        refine ⟨I.ok, I.runs, fun t x => ?_, fun t ht => ?_, ?_⟩
        · show aget ((s.stands.map (evAt hs)).foldl wayStep []) t = some x ↔ (aget (wayStep si.way e) t = some x ∧ t ∈ s.sent)
          rw [I.iff_ t x]
          cases e with
          | send p u y =>
            show _ ↔ (aget (aput si.way u y) t = some x ∧ t ∈ s.sent)
            rw [aget_aput]
            by_cases hu : u = t
            · have hn : t ∉ s.sent := fun z => new p u y rfl (by rw [hu]; exact I.sub t z)
              simp [hn]
            · rw [if_neg hu]
          | land p u =>
            show _ ↔ (aget (adrop si.way u) t = some x ∧ t ∈ s.sent)
            rw [aget_adrop]
            by_cases hu : u = t
            · have hn : t ∉ s.sent := fun z => hst (by
                unfold standsAt
                rw [Bool.and_eq_true]
                exact ⟨by simpa [hu] using z, rfl⟩)
              simp [hn]
            · rw [if_neg hu]
          | make p m y => exact Iff.rfl
          | hand p o y => exact Iff.rfl
          | forge p y => exact Iff.rfl
        · rw [tk]; exact List.mem_append_left _ (I.sub t ht)
        · rw [leftOf_succ, if_neg hrec, hev]
          have := I.tot
          show Mh.total ps ⟨s.held, (s.stands.map (evAt hs)).foldl wayStep []⟩ ≤ _
          omega
end
end Mh
set_option Elab.async false
set_option linter.all false
set_option maxRecDepth 100000
set_option maxHeartbeats 4000000
namespace Mw
open PySem PySem.Spec PyProof.Rows L2 DL Mh
/-! ### the model as data -/
def plD (p : Pl) : D := .tup [.str p.1, .str p.2]
def optP : Option Pl → D
  | none => .non
  | some p => plD p
def rowD (r : Mh.Row) : D := .tup [optP r.taker, itup r.take, optP r.getter, itup r.give]
def evD : Ev → D
  | .make p m g => .tup [.str "make", .str p.1, .str p.2, .int (m : Nat), itup g]
  | .hand p o g => .tup [.str "hand", .str p.1, .str p.2, .str o, itup g]
  | .send p t g => .tup [.str "send", .str p.1, .str p.2, .int t, itup g]
  | .land p t => .tup [.str "land", .str p.1, .str p.2, .int t]
  | .forge p g => .tup [.str "forge", .str p.1, .str p.2, itup g]
def mvD (m : Mv) : D := .tup [.str m.name, itup m.take, itup m.low, itup m.high]
def bkD (b : Bk) : D := .tup [.tup (b.names.map .str), .tup (b.mvs.map mvD)]
def hsD (hs : List Ev) : D := .tup (hs.map evD)
def plK (p : Pl) : List Key := [Sum.inr p.1, Sum.inr p.2]
def heldK (h : Held) : List (List Key × D) := h.map fun e => (plK e.1, itup e.2)
def wayK (w : Way) : List (Key × D) := w.map fun e => (Sum.inl e.1, itup e.2)
theorem plK_inj {p q : Pl} : plK p = plK q ↔ p = q := by
  obtain ⟨a, b⟩ := p
  obtain ⟨c, d⟩ := q
  simp [plK]
theorem plK_kD (p : Pl) : (plK p).map kD = [.str p.1, .str p.2] := rfl
theorem look_map {κ κ' α : Type} [DecidableEq κ] [DecidableEq κ'] (f : κ → κ') (hf : ∀ a b, f a = f b ↔ a = b) (g : α → D) (l : List (κ × α)) (k : κ) : look (l.map fun e => (f e.1, g e.2)) (f k) = (aget l k).map g := by
  induction l with
  | nil => rfl
  | cons p l ih =>
    rw [List.map_cons, aget_cons]
    by_cases h : p.1 = k
    · rw [if_pos h, look_pos (by show f p.1 = f k; rw [h])]; rfl
    · rw [if_neg h, look_neg (by show ¬ f p.1 = f k; rw [hf]; exact h)]; exact ih
theorem putD_map {κ κ' α : Type} [DecidableEq κ] [DecidableEq κ'] (f : κ → κ') (hf : ∀ a b, f a = f b ↔ a = b) (g : α → D) (l : List (κ × α)) (k : κ) (v : α) : putD (l.map fun e => (f e.1, g e.2)) (f k) (g v) = (aput l k v).map fun e => (f e.1, g e.2) := by
  unfold putD aput
  have e1 : ((l.map fun e => (f e.1, g e.2)).any fun kv => decide (kv.1 = f k)) = l.any fun kv => decide (kv.1 = k) := by
    rw [List.any_map]
    congr 1
    funext x
    show decide (f x.1 = f k) = _
    simp only [hf]
  rw [e1]
  split
  · rw [List.map_map, List.map_map]
    refine List.map_congr_left fun x _ => ?_
    show (if f x.1 = f k then (f x.1, g v) else (f x.1, g x.2)) = _
    by_cases h : x.1 = k
    · rw [if_pos (by rw [h])]
      show _ = ((f (if x.1 = k then (x.1, v) else x).1, g (if x.1 = k then (x.1, v) else x).2))
      rw [if_pos h]
    · rw [if_neg (by rw [hf]; exact h)]
      show _ = ((f (if x.1 = k then (x.1, v) else x).1, g (if x.1 = k then (x.1, v) else x).2))
      rw [if_neg h]
  · rw [List.map_append]; rfl
theorem dropD_map {κ κ' α : Type} [DecidableEq κ] [DecidableEq κ'] (f : κ → κ') (hf : ∀ a b, f a = f b ↔ a = b) (g : α → D) (l : List (κ × α)) (k : κ) : dropD (l.map fun e => (f e.1, g e.2)) (f k) = (adrop l k).map fun e => (f e.1, g e.2) := by
  unfold dropD adrop
  rw [List.filter_map]
  congr 1
  refine List.filter_congr fun x _ => ?_
  show decide (f x.1 ≠ f k) = _
  simp only [ne_eq, hf]
theorem look_held (h : Held) (p : Pl) : look (heldK h) (plK p) = (aget h p).map itup := look_map plK (fun _ _ => plK_inj) itup h p
theorem put_held (h : Held) (p : Pl) (v : IL) : putD (heldK h) (plK p) (itup v) = heldK (aput h p v) := putD_map plK (fun _ _ => plK_inj) itup h p v
theorem inl_inj (a b : Int) : (Sum.inl a : Key) = Sum.inl b ↔ a = b := by simp
theorem look_way (w : Way) (t : Int) : look (wayK w) (Sum.inl t) = (aget w t).map itup := look_map Sum.inl inl_inj itup w t
theorem put_way (w : Way) (t : Int) (v : IL) : putD (wayK w) (Sum.inl t) (itup v) = wayK (aput w t v) := putD_map Sum.inl inl_inj itup w t v
theorem drop_way (w : Way) (t : Int) : dropD (wayK w) (Sum.inl t) = wayK (adrop w t) := dropD_map Sum.inl inl_inj itup w t
theorem held_getD (n : Nat) (h : Held) (p : Pl) : (look (heldK h) (plK p)).getD (itup (zero n)) = itup (hget n h p) := by
  rw [look_held]
  unfold hget
  cases aget h p <;> rfl
/-! ### less, covers, sent_stock -/
abbrev sLess : Stmt := top 6
theorem sc_less : FnScope ["stock", "other", "k"] ["stock", "other"] (defScope sLess) := ⟨rfl, rfl, rfl, by decide +kernel, rfl, by decide +kernel, by decide +kernel⟩
def pdLess : PD := fun ds μ k => ∃ xs ys : List Int, ds = [itup xs, itup ys] ∧ xs.length ≤ ys.length ∧ xs.length ≤ 100 ∧ k (itup (lless xs ys)) μ
abbrev sCovers : Stmt := top 7
theorem sc_covers : FnScope ["stock", "other", "k"] ["stock", "other"] (defScope sCovers) := ⟨rfl, rfl, rfl, by decide +kernel, rfl, by decide +kernel, by decide +kernel⟩
def pdCovers : PD := fun ds μ k => ∃ (n : Nat) (xs ys : List Int), ds = [itup xs, itup ys] ∧ Ok n xs ∧ Ok n ys ∧ n ≤ 100 ∧ k (.bl (lcov xs ys)) μ
abbrev sSent : Stmt := top 9
theorem sc_sent : FnScope ["history", "ticket", "event"] ["history", "ticket"] (defScope sSent) := ⟨rfl, rfl, rfl, by decide +kernel, rfl, by decide +kernel, by decide +kernel⟩
def sentD (hs : List Ev) (t : Int) : D := match sentOf hs t with
  | some g => itup g
  | none => .non
def pdSent : PD := fun ds μ k => ∃ (hs : List Ev) (t : Int), ds = [hsD hs, .int t] ∧ k (sentD hs t) μ
theorem lcov_succ {xs ys : IL} {i : Nat} : (List.range (i + 1)).all (fun j => decide (at0 ys j ≤ at0 xs j)) = ((List.range i).all (fun j => decide (at0 ys j ≤ at0 xs j)) && decide (at0 ys i ≤ at0 xs i)) := by
  rw [List.range_succ, List.all_append]
  simp
theorem sentOf_take {hs : List Ev} {t : Int} {i : Nat} {e : Ev} (h : hs[i]? = some e) (n : sentOf (hs.take i) t = none) : sentOf (hs.take (i + 1)) t = sentOf [e] t := by
  unfold sentOf at n ⊢
  rw [List.take_add_one, h, List.findSome?_append, n]
  rfl
theorem sentOf_hit {hs : List Ev} {t : Int} {i : Nat} {g : IL} (h : sentOf (hs.take i) t = some g) : sentOf hs t = some g := by
  have := sentOf_app (r := hs.drop i) h
  rwa [List.take_append_drop] at this
section
variable {P : Program} {w : World} {K : PySem.W.Frag} {mg : Str → Option Value} {base : Heap} {f : Addr} {fd : FuncData}
theorem ok_less (F : FunD K "less" "less" (defArgs sLess) (defBody sLess) (defScope sLess) [] [] f fd) (B : Bt mg) : FnOk P w K mg base CX0 1 f fd ["stock", "other"] (dsp K pdLess) := by
  refine fn_dl F sc_less (fun ds μ k h => by obtain ⟨xs, ys, rfl, _⟩ := h; rfl) fun cdv A outer s H E hr ds μ k h => ?_
  obtain ⟨xs, ys, rfl, h1, h2, hk⟩ := h
  have nd := sc_less.nd
  refine sv_one (s1_ret (ev_callT0 (av_cons0 ((ev_lcP (own := [("k", 2)]) (k := Is (.lst ((lless xs ys).map .int)) μ) 2
    (iv_range B.range (ev_callB (av_cons (ev_var 0 rfl) av_nil) (cd_len (.inl rfl) ⟨rfl, rfl⟩) B.len PySem.boot_len) (by simp; omega) (by omega)) (by simp; omega) (fun _ _ => true) (fun i _ => .int (xs.getD i 0 - ys.getD i 0)) (fun _ _ => trivial)
    (fun i d μ' s H C cl fp hd _ => ts_nil ⟨rfl, rfl⟩) (fun i d μ' s H C cl fp hd _ _ => ?_) (.inl ⟨?_, rfl⟩) sc_less).is (av_nil0 (cd_tuple (.inr .l) hk)))) B.tuple (by decide +kernel)))
  · obtain ⟨hi, rfl⟩ := rg_lt hd
    simp at hi
    exact ev_bin (ev_ix (ev_var 0 rfl) (ev_var 2 rfl) (rd_ixT rfl (it_at hi) ⟨rfl, rfl⟩)) (ev_ix (ev_var 1 rfl) (ev_var 2 rfl) (rd_ixT rfl (it_at (by omega)) ⟨rfl, rfl⟩)) (rd_sub ⟨rfl, rfl⟩)
  · simp [kept_rg, lless, at0]
theorem ok_covers (F : FunD K "covers" "covers" (defArgs sCovers) (defBody sCovers) (defScope sCovers) [] [] f fd) (B : Bt mg) : FnOk P w K mg base CX0 1 f fd ["stock", "other"] (dsp K pdCovers) := by
  refine fn_dl F sc_covers (fun ds μ k h => by obtain ⟨n, xs, ys, rfl, _⟩ := h; rfl) fun cdv A outer s H E hr ds μ k h => ?_
  obtain ⟨n, xs, ys, rfl, h1, h2, h3, hk⟩ := h
  have nd := sc_covers.nd
  refine sv_cons (s1_forR (n := xs.length) 2 PassesOwn.never rfl nd (iv_range B.range (ev_callB (av_cons (ev_var 0 rfl) av_nil) (cd_len (.inl rfl) ⟨by simp, rfl⟩) B.len PySem.boot_len) (by have := h1.len; omega) (by omega))
    (fun i δ' μ' => μ' = μ ∧ (∃ z, δ' = [some (itup xs), some (itup ys), z]) ∧ (List.range i).all (fun j => decide (at0 ys j ≤ at0 xs j)) = true) ⟨rfl, ⟨none, rfl⟩, rfl⟩ (fun i δ' μ' hi hI => ?_) (fun δ' μ' hI => ?_))
  · obtain ⟨rfl, ⟨z, rfl⟩, hall⟩ := hI
    have hin : i < xs.length := by omega
    have hin2 : i < ys.length := by rw [h2.len, ← h1.len]; exact hin
    have nx : 0 ≤ at0 xs i := h1.nn i (by rw [← h1.len]; exact hin)
    have ny : 0 ≤ at0 ys i := h2.nn i (by rw [← h1.len]; exact hin)
    refine sv_one (s1_ifB (c1 := decide (at0 xs i < at0 ys i)) (μ1 := μ') (tv_and2 (c1 := true) (c2 := decide (at0 xs i < at0 ys i)) ?_ fun _ => ?_) (fun h => ?_) (fun h => ?_))
    · refine tv_cmp (ev_ix (ev_var 0 rfl) (ev_var 2 rfl) (rd_ixT rfl (it_at hin) ⟨rfl, rfl⟩)) (ev_un ev_int (ud_neg ⟨rfl, rfl⟩)) (rd_ne ⟨rfl, rfl⟩) ⟨?_, rfl⟩
      have : ¬ at0 xs i = -1 := by omega
      simpa [at0] using this
    · refine (tv_or2 (c1 := false) (c2 := decide (at0 xs i < at0 ys i)) ?_ fun _ => ?_)
      · refine tv_cmp (ev_ix (ev_var 1 rfl) (ev_var 2 rfl) (rd_ixT rfl (it_at hin2) ⟨rfl, rfl⟩)) (ev_un ev_int (ud_neg ⟨rfl, rfl⟩)) (rd_eq ⟨rfl, rfl⟩) ⟨?_, rfl⟩
        have : ¬ at0 ys i = -1 := by omega
        simpa [at0] using this
      · exact tv_cmp (ev_ix (ev_var 0 rfl) (ev_var 2 rfl) (rd_ixT rfl (it_at hin) ⟨rfl, rfl⟩)) (ev_ix (ev_var 1 rfl) (ev_var 2 rfl) (rd_ixT rfl (it_at hin2) ⟨rfl, rfl⟩)) (rd_lt ⟨rfl, rfl⟩) ⟨rfl, rfl⟩
    · have hlt : at0 xs i < at0 ys i := of_decide_eq_true h
      refine sv_one (s1_ret (ev_bl.is ?_))
      have e : lcov xs ys = false := by
        cases e : lcov xs ys with
        | false => rfl
        | true => have := lcov_iff.mp e i hin; omega
      rw [e] at hk
      exact hk
    · have hge : ¬ at0 xs i < at0 ys i := of_decide_eq_false h
      refine sv_nil ⟨rfl, ⟨_, rfl⟩, ?_⟩
      rw [lcov_succ, hall, Bool.true_and]
      exact decide_eq_true (by omega)
  · obtain ⟨rfl, ⟨z, rfl⟩, hall⟩ := hI
    refine sv_one (s1_ret (ev_bl.is ?_))
    have e : lcov xs ys = true := by
      unfold lcov
      simpa using hall
    rw [e] at hk
    exact hk
theorem ok_sent (F : FunD K "sent_stock" "sent_stock" (defArgs sSent) (defBody sSent) (defScope sSent) [] [] f fd) (B : Bt mg) : FnOk P w K mg base CX0 1 f fd ["history", "ticket"] (dsp K pdSent) := by
  refine fn_dl F sc_sent (fun ds μ k h => by obtain ⟨hs, t, rfl, _⟩ := h; rfl) fun cdv A outer s H E hr ds μ k h => ?_
  obtain ⟨hs, t, rfl, hk⟩ := h
  have nd := sc_sent.nd
  refine sv_cons (s1_for PassesOwn.never rfl (iv_tup (ev_var 0 rfl)) (fun i δ' μ' => μ' = μ ∧ (∃ z, δ' = [some (hsD hs), some (.int t), z]) ∧ sentOf (hs.take i) t = none) ⟨rfl, ⟨none, rfl⟩, rfl⟩ (fun _ _ _ _ => trivial) (fun i d δ' μ' hd hI => ?_) (fun δ' μ' hI => ?_))
  · obtain ⟨rfl, ⟨z, rfl⟩, hno⟩ := hI
    rw [List.getElem?_map] at hd
    obtain ⟨e, he, rfl⟩ : ∃ e, hs[i]? = some e ∧ evD e = d := by
      cases q : hs[i]? with
      | none => rw [q] at hd; cases hd
      | some e => rw [q] at hd; exact ⟨e, rfl, Option.some.inj hd⟩
    have hn := sentOf_take he hno
    refine gv_name 2 nd ?_
    cases e with
    | send p u g =>
      refine sv_one (s1_ifB (c1 := decide (u = t)) (μ1 := μ') (tv_and2 (c1 := true) (c2 := decide (u = t)) (tv_cmp (ev_ix (ev_var 2 rfl) ev_int (rd_ixT rfl rfl ⟨rfl, rfl⟩)) ev_str (rd_eqS ⟨rfl, rfl⟩) ⟨rfl, rfl⟩) fun _ => tv_cmp (ev_ix (ev_var 2 rfl) ev_int (rd_ixT rfl rfl ⟨rfl, rfl⟩)) (ev_var 1 rfl) (rd_eq ⟨rfl, rfl⟩) ⟨rfl, rfl⟩) (fun h => ?_) (fun h => ?_))
      · refine sv_one (s1_ret ((ev_ix (ev_var 2 rfl) ev_int (rd_ixT rfl rfl ⟨rfl, rfl⟩)).is ?_))
        have e1 : sentOf [Ev.send p u g] t = some g := by simp [sentOf, of_decide_eq_true h]
        rw [e1] at hn
        unfold sentD at hk
        rw [sentOf_hit hn] at hk
        exact hk
      · refine sv_nil ⟨rfl, ⟨_, rfl⟩, ?_⟩
        rw [hn]
        simp [sentOf, of_decide_eq_false h]
    | make p m g => exact sv_one (s1_ifB (c1 := false) (μ1 := μ') (tv_and2 (c1 := false) (c2 := false) (tv_cmp (ev_ix (ev_var 2 rfl) ev_int (rd_ixT rfl rfl ⟨rfl, rfl⟩)) ev_str (rd_eqS ⟨rfl, rfl⟩) ⟨by decide, rfl⟩) fun h => by cases h) (fun h => by cases h) fun _ => sv_nil ⟨rfl, ⟨_, rfl⟩, by rw [hn]; rfl⟩)
    | hand p m g => exact sv_one (s1_ifB (c1 := false) (μ1 := μ') (tv_and2 (c1 := false) (c2 := false) (tv_cmp (ev_ix (ev_var 2 rfl) ev_int (rd_ixT rfl rfl ⟨rfl, rfl⟩)) ev_str (rd_eqS ⟨rfl, rfl⟩) ⟨by decide, rfl⟩) fun h => by cases h) (fun h => by cases h) fun _ => sv_nil ⟨rfl, ⟨_, rfl⟩, by rw [hn]; rfl⟩)
    | land p m => exact sv_one (s1_ifB (c1 := false) (μ1 := μ') (tv_and2 (c1 := false) (c2 := false) (tv_cmp (ev_ix (ev_var 2 rfl) ev_int (rd_ixT rfl rfl ⟨rfl, rfl⟩)) ev_str (rd_eqS ⟨rfl, rfl⟩) ⟨by decide, rfl⟩) fun h => by cases h) (fun h => by cases h) fun _ => sv_nil ⟨rfl, ⟨_, rfl⟩, by rw [hn]; rfl⟩)
    | forge p m => exact sv_one (s1_ifB (c1 := false) (μ1 := μ') (tv_and2 (c1 := false) (c2 := false) (tv_cmp (ev_ix (ev_var 2 rfl) ev_int (rd_ixT rfl rfl ⟨rfl, rfl⟩)) ev_str (rd_eqS ⟨rfl, rfl⟩) ⟨by decide, rfl⟩) fun h => by cases h) (fun h => by cases h) fun _ => sv_nil ⟨rfl, ⟨_, rfl⟩, by rw [hn]; rfl⟩)
  · obtain ⟨rfl, ⟨z, rfl⟩, hno⟩ := hI
    rw [List.length_map, List.take_length] at hno
    refine sv_one (s1_ret (ev_non.is ?_))
    unfold sentD at hk
    rw [hno] at hk
    exact hk
end
end Mw
set_option Elab.async false
set_option linter.all false
set_option maxRecDepth 100000
set_option maxHeartbeats 4000000
namespace Mw
open PySem PySem.Spec PyProof.Rows L2 DL Mh
/-! ### flow, is_possible, carry -/
abbrev sFlow : Stmt := top 10
theorem sc_flow : FnScope ["book", "history", "number", "event", "zero", "place"] ["book", "history", "number"] (defScope sFlow) := ⟨rfl, rfl, rfl, by decide +kernel, rfl, by decide +kernel, by decide +kernel⟩
/-- the row of the event can be made -/
def FlowOk (b : Bk) (hs : List Ev) : Ev → Prop
  | .make _ m _ => m < b.mvs.length
  | .land _ t => ∃ g, sentOf hs t = some g
  | _ => True
def pdFlow : PD := fun ds μ k => ∃ (b : Bk) (hs : List Ev) (i : Nat) (e : Ev), ds = [bkD b, hsD hs, .int (i : Nat)] ∧ hs[i]? = some e ∧ FlowOk b hs e ∧ b.n ≤ 100 ∧ k (rowD (flow b hs e)) μ
abbrev sPoss : Stmt := top 11
theorem sc_poss : FnScope ["held", "row", "taker", "take", "getter", "give"] ["held", "row"] (defScope sPoss) := ⟨rfl, rfl, rfl, by decide +kernel, rfl, by decide +kernel, by decide +kernel⟩
def pdPoss : PD := fun ds μ k => ∃ (h : Addr) (hl : Held) (r : Mh.Row) (n : Nat), ds = [.ref h, rowD r] ∧ μ h = some (.dT (heldK hl)) ∧ n ≤ 100 ∧ (∀ p, r.taker = some p → Ok n r.take ∧ Ok n (hget n hl p)) ∧ k (.bl (possible hl r)) μ
abbrev sCarry : Stmt := top 12
theorem sc_carry : FnScope ["held", "row", "taker", "take", "getter", "give"] ["held", "row"] (defScope sCarry) := ⟨rfl, rfl, rfl, by decide +kernel, rfl, by decide +kernel, by decide +kernel⟩
def pdCarry : PD := fun ds μ k => ∃ (h : Addr) (hl : Held) (r : Mh.Row) (n : Nat), ds = [.ref h, rowD r] ∧ μ h = some (.dT (heldK hl)) ∧ n ≤ 100 ∧ hl.length ≤ 1000 ∧ (∀ e ∈ hl, e.2.length = n) ∧ (∀ p, r.taker = some p → r.take.length = n) ∧ (∀ p, r.getter = some p → r.give.length = n) ∧
  k .non (μ.put h (.dT (heldK (carry hl r))))
theorem u1 {k : Nat} {A : Around} (r : Room k A) : A.units + 1 < cLine := by have := r.un; omega
theorem u0 {k : Nat} {A : Around} (r : Room k A) : A.units < cLine := by have := r.un; omega
theorem u64 {k : Nat} {A : Around} (r : Room k A) : A.units + 64 < cLine := by have := r.un; omega
theorem zeroD (n : Nat) : (.tup (List.replicate n [D.int 0]).flatten : D) = itup (zero n) := by
  rw [flat_one]
  simp [zero, itup]
theorem hget_len {n : Nat} {hl : Held} (h : ∀ e ∈ hl, e.2.length = n) (p : Pl) : (hget n hl p).length = n := by
  unfold hget
  cases e : aget hl p with
  | none => exact zero_len
  | some v => exact h _ (aget_mem e)
theorem heldK_len (hl : Held) : (heldK hl).length = hl.length := by simp [heldK]
theorem aput_len {κ α : Type} [DecidableEq κ] (l : List (κ × α)) (k : κ) (v : α) : (aput l k v).length ≤ l.length + 1 := by
  unfold aput
  split
  · simp
  · simp
section
variable {P : Program} {w : World} {K : PySem.W.Frag} {mg : Str → Option Value} {base : Heap} {f : Addr} {fd : FuncData}
theorem ok_flow (F : FunD K "flow" "flow" (defArgs sFlow) (defBody sFlow) (defScope sFlow) [] [] f fd) (B : Bt mg) (cS : Cal P w K mg base "sent_stock" 1 pdSent) : FnOk P w K mg base CX0 2 f fd ["book", "history", "number"] (dsp K pdFlow) := by
  refine fn_dl F sc_flow (fun ds μ k h => by obtain ⟨b, hs, i, e, rfl, _⟩ := h; rfl) fun cdv A outer s H E hr ds μ k h => ?_
  obtain ⟨b, hs, i, e, rfl, he, hok, hn, hk⟩ := h
  have nd := sc_flow.nd
  have hat : atI (hs.map evD) (i : Int) = some (evD e) := atI_nat (by rw [List.getElem?_map, he]; rfl)
  refine sv_cons (s1_set 3 nd ((ev_ix (ev_var 1 rfl) (ev_var 2 rfl) (rd_ixT rfl hat ⟨rfl, rfl⟩)).is ?_))
  refine sv_cons (s1_set 4 nd ((ev_bin (ev_tup (av_cons ev_int av_nil) (by simp) ⟨rfl, rfl⟩) (ev_callB (av_cons (ev_ix (ev_var 0 rfl) ev_int (rd_ixT rfl rfl ⟨rfl, rfl⟩)) av_nil) (cd_len (.inl rfl) ⟨rfl, rfl⟩) B.len PySem.boot_len) (rd_repT rfl (by simp) (by simp) (by omega) (by have := hn; unfold Bk.n at this; simp; omega) ⟨rfl, rfl⟩)).is ?_))
  have ez : (.tup (List.replicate ((b.names.map D.str).length : Int).toNat [D.int 0]).flatten : D) = itup (zero b.n) := by
    rw [← zeroD]
    simp [Bk.n]
  rw [ez]
  cases e with
  | make p m g =>
    refine sv_cons (s1_set 5 nd ((ev_tup (av_cons (ev_ix (ev_var 3 rfl) ev_int (rd_ixT rfl rfl ⟨rfl, rfl⟩)) (av_cons (ev_ix (ev_var 3 rfl) ev_int (rd_ixT rfl rfl ⟨rfl, rfl⟩)) av_nil)) (by simp) ⟨rfl, rfl⟩).is ?_))
    refine sv_cons (s1_ifB (c1 := true) (μ1 := μ) (tv_cmp (ev_ix (ev_var 3 rfl) ev_int (rd_ixT rfl rfl ⟨rfl, rfl⟩)) ev_str (rd_eqS ⟨rfl, rfl⟩) ⟨rfl, rfl⟩) (fun _ => ?_) fun h => by cases h)
    have hm : atI (b.mvs.map mvD) (m : Int) = some (mvD (b.mvs.getD m default)) := atI_nat (by
      have hlt : m < b.mvs.length := hok
      rw [List.getElem?_map, List.getElem?_eq_getElem hlt, List.getD_eq_getElem?_getD, List.getElem?_eq_getElem hlt]; rfl)
    exact sv_one (s1_ret (ev_tup (av_cons (ev_var 5 rfl) (av_cons (ev_ix (ev_ix (ev_ix (ev_var 0 rfl) ev_int (rd_ixT rfl rfl ⟨rfl, rfl⟩)) (ev_ix (ev_var 3 rfl) ev_int (rd_ixT rfl rfl ⟨rfl, rfl⟩)) (rd_ixT rfl hm ⟨rfl, rfl⟩)) ev_int (rd_ixT rfl rfl ⟨rfl, rfl⟩)) (av_cons (ev_var 5 rfl) (av_cons (ev_ix (ev_var 3 rfl) ev_int (rd_ixT rfl rfl ⟨rfl, rfl⟩)) av_nil)))) (by simp) hk))
  | hand p o g =>
    refine sv_cons (s1_set 5 nd ((ev_tup (av_cons (ev_ix (ev_var 3 rfl) ev_int (rd_ixT rfl rfl ⟨rfl, rfl⟩)) (av_cons (ev_ix (ev_var 3 rfl) ev_int (rd_ixT rfl rfl ⟨rfl, rfl⟩)) av_nil)) (by simp) ⟨rfl, rfl⟩).is ?_))
    refine sv_cons (s1_ifB (c1 := false) (μ1 := μ) (tv_cmp (ev_ix (ev_var 3 rfl) ev_int (rd_ixT rfl rfl ⟨rfl, rfl⟩)) ev_str (rd_eqS ⟨rfl, rfl⟩) ⟨by decide, rfl⟩) (fun h => by cases h) fun _ => sv_nil ?_)
    refine sv_cons (s1_ifB (c1 := true) (μ1 := μ) (tv_cmp (ev_ix (ev_var 3 rfl) ev_int (rd_ixT rfl rfl ⟨rfl, rfl⟩)) ev_str (rd_eqS ⟨rfl, rfl⟩) ⟨rfl, rfl⟩) (fun _ => ?_) fun h => by cases h)
    exact sv_one (s1_ret (ev_tup (av_cons (ev_var 5 rfl) (av_cons (ev_ix (ev_var 3 rfl) ev_int (rd_ixT rfl rfl ⟨rfl, rfl⟩)) (av_cons (ev_tup (av_cons (ev_ix (ev_var 3 rfl) ev_int (rd_ixT rfl rfl ⟨rfl, rfl⟩)) (av_cons (ev_ix (ev_var 3 rfl) ev_int (rd_ixT rfl rfl ⟨rfl, rfl⟩)) av_nil)) (by simp) ⟨rfl, rfl⟩) (av_cons (ev_ix (ev_var 3 rfl) ev_int (rd_ixT rfl rfl ⟨rfl, rfl⟩)) av_nil)))) (by simp) hk))
  | send p t g =>
    refine sv_cons (s1_set 5 nd ((ev_tup (av_cons (ev_ix (ev_var 3 rfl) ev_int (rd_ixT rfl rfl ⟨rfl, rfl⟩)) (av_cons (ev_ix (ev_var 3 rfl) ev_int (rd_ixT rfl rfl ⟨rfl, rfl⟩)) av_nil)) (by simp) ⟨rfl, rfl⟩).is ?_))
    refine sv_cons (s1_ifB (c1 := false) (μ1 := μ) (tv_cmp (ev_ix (ev_var 3 rfl) ev_int (rd_ixT rfl rfl ⟨rfl, rfl⟩)) ev_str (rd_eqS ⟨rfl, rfl⟩) ⟨by decide, rfl⟩) (fun h => by cases h) fun _ => sv_nil ?_)
    refine sv_cons (s1_ifB (c1 := false) (μ1 := μ) (tv_cmp (ev_ix (ev_var 3 rfl) ev_int (rd_ixT rfl rfl ⟨rfl, rfl⟩)) ev_str (rd_eqS ⟨rfl, rfl⟩) ⟨by decide, rfl⟩) (fun h => by cases h) fun _ => sv_nil ?_)
    refine sv_cons (s1_ifB (c1 := true) (μ1 := μ) (tv_cmp (ev_ix (ev_var 3 rfl) ev_int (rd_ixT rfl rfl ⟨rfl, rfl⟩)) ev_str (rd_eqS ⟨rfl, rfl⟩) ⟨rfl, rfl⟩) (fun _ => ?_) fun h => by cases h)
    exact sv_one (s1_ret (ev_tup (av_cons (ev_var 5 rfl) (av_cons (ev_ix (ev_var 3 rfl) ev_int (rd_ixT rfl rfl ⟨rfl, rfl⟩)) (av_cons ev_non (av_cons (ev_var 4 rfl) av_nil)))) (by simp) hk))
  | land p t =>
    obtain ⟨g, hg⟩ := hok
    refine sv_cons (s1_set 5 nd ((ev_tup (av_cons (ev_ix (ev_var 3 rfl) ev_int (rd_ixT rfl rfl ⟨rfl, rfl⟩)) (av_cons (ev_ix (ev_var 3 rfl) ev_int (rd_ixT rfl rfl ⟨rfl, rfl⟩)) av_nil)) (by simp) ⟨rfl, rfl⟩).is ?_))
    refine sv_cons (s1_ifB (c1 := false) (μ1 := μ) (tv_cmp (ev_ix (ev_var 3 rfl) ev_int (rd_ixT rfl rfl ⟨rfl, rfl⟩)) ev_str (rd_eqS ⟨rfl, rfl⟩) ⟨by decide, rfl⟩) (fun h => by cases h) fun _ => sv_nil ?_)
    refine sv_cons (s1_ifB (c1 := false) (μ1 := μ) (tv_cmp (ev_ix (ev_var 3 rfl) ev_int (rd_ixT rfl rfl ⟨rfl, rfl⟩)) ev_str (rd_eqS ⟨rfl, rfl⟩) ⟨by decide, rfl⟩) (fun h => by cases h) fun _ => sv_nil ?_)
    refine sv_cons (s1_ifB (c1 := false) (μ1 := μ) (tv_cmp (ev_ix (ev_var 3 rfl) ev_int (rd_ixT rfl rfl ⟨rfl, rfl⟩)) ev_str (rd_eqS ⟨rfl, rfl⟩) ⟨by decide, rfl⟩) (fun h => by cases h) fun _ => sv_nil ?_)
    refine sv_cons (s1_ifB (c1 := true) (μ1 := μ) (tv_cmp (ev_ix (ev_var 3 rfl) ev_int (rd_ixT rfl rfl ⟨rfl, rfl⟩)) ev_str (rd_eqS ⟨rfl, rfl⟩) ⟨rfl, rfl⟩) (fun _ => ?_) fun h => by cases h)
    have e1 : rowD (flow b hs (.land p t)) = .tup [.non, itup (zero b.n), plD p, itup g] := by
      show rowD ⟨none, zero b.n, some p, (sentOf hs t).getD []⟩ = _
      rw [hg]; rfl
    rw [e1] at hk
    refine sv_one (s1_ret (ev_tup (av_cons ev_non (av_cons (ev_var 4 rfl) (av_cons (ev_var 5 rfl) (av_cons (ev_callC cS (hr.mono (by omega)) ?_) av_nil)))) (by simp) hk))
    refine (av_cons (ev_var 1 rfl) (av_cons (ev_ix (ev_var 3 rfl) ev_int (rd_ixT rfl rfl ⟨rfl, rfl⟩)) av_nil)).is ⟨hs, t, rfl, ?_⟩
    unfold sentD
    rw [hg]
    exact ⟨rfl, rfl⟩
  | forge p g =>
    refine sv_cons (s1_set 5 nd ((ev_tup (av_cons (ev_ix (ev_var 3 rfl) ev_int (rd_ixT rfl rfl ⟨rfl, rfl⟩)) (av_cons (ev_ix (ev_var 3 rfl) ev_int (rd_ixT rfl rfl ⟨rfl, rfl⟩)) av_nil)) (by simp) ⟨rfl, rfl⟩).is ?_))
    refine sv_cons (s1_ifB (c1 := false) (μ1 := μ) (tv_cmp (ev_ix (ev_var 3 rfl) ev_int (rd_ixT rfl rfl ⟨rfl, rfl⟩)) ev_str (rd_eqS ⟨rfl, rfl⟩) ⟨by decide, rfl⟩) (fun h => by cases h) fun _ => sv_nil ?_)
    refine sv_cons (s1_ifB (c1 := false) (μ1 := μ) (tv_cmp (ev_ix (ev_var 3 rfl) ev_int (rd_ixT rfl rfl ⟨rfl, rfl⟩)) ev_str (rd_eqS ⟨rfl, rfl⟩) ⟨by decide, rfl⟩) (fun h => by cases h) fun _ => sv_nil ?_)
    refine sv_cons (s1_ifB (c1 := false) (μ1 := μ) (tv_cmp (ev_ix (ev_var 3 rfl) ev_int (rd_ixT rfl rfl ⟨rfl, rfl⟩)) ev_str (rd_eqS ⟨rfl, rfl⟩) ⟨by decide, rfl⟩) (fun h => by cases h) fun _ => sv_nil ?_)
    refine sv_cons (s1_ifB (c1 := false) (μ1 := μ) (tv_cmp (ev_ix (ev_var 3 rfl) ev_int (rd_ixT rfl rfl ⟨rfl, rfl⟩)) ev_str (rd_eqS ⟨rfl, rfl⟩) ⟨by decide, rfl⟩) (fun h => by cases h) fun _ => sv_nil ?_)
    exact sv_one (s1_ret (ev_tup (av_cons ev_non (av_cons (ev_var 4 rfl) (av_cons (ev_var 5 rfl) (av_cons (ev_ix (ev_var 3 rfl) ev_int (rd_ixT rfl rfl ⟨rfl, rfl⟩)) av_nil)))) (by simp) hk))
theorem ok_poss (F : FunD K "is_possible" "is_possible" (defArgs sPoss) (defBody sPoss) (defScope sPoss) [] [] f fd) (B : Bt mg) (cC : Cal P w K mg base "covers" 1 pdCovers) : FnOk P w K mg base CX0 2 f fd ["held", "row"] (dsp K pdPoss) := by
  refine fn_dl F sc_poss (fun ds μ k h => by obtain ⟨b, hs, i, e, rfl, _⟩ := h; rfl) fun cdv A outer s H E hr ds μ k h => ?_
  obtain ⟨h, hl, r, n, rfl, hh, hn, hp, hk⟩ := h
  have nd := sc_poss.nd
  refine sv_cons (s1_asg ((ev_var 1 rfl).is (gv_tup rfl (gvs_cons (gv_name 2 nd (gvs_cons (gv_name 3 nd (gvs_cons (gv_name 4 nd (gvs_cons (gv_name 5 nd (gvs_nil ?_))))))))))))
  obtain ⟨taker, take, getter, give⟩ := r
  cases taker with
  | none => exact sv_one (s1_ret (ev_or (ev_isN (ev_var 2 rfl) ⟨true, rfl, nofun, fun _ => hk⟩)))
  | some p =>
    obtain ⟨h1, h2⟩ := hp p rfl
    refine sv_one (s1_ret (ev_or (ev_isN (ev_var 2 rfl) ⟨false, rfl, fun _ => ev_one (ev_callC cC (hr.mono (by omega)) ?_), nofun⟩)))
    have ez : (.tup (List.replicate ((take.map D.int).length : Int).toNat [D.int 0]).flatten : D) = itup (zero n) := by
      rw [← zeroD]
      have := h1.len
      simp at this ⊢
      rw [this]
    refine (av_cons (ds := [itup take]) (d := itup (hget n hl p)) (ev_getT (p := h) (kvs := heldK hl) (y := plK p) (dx := itup (zero n)) (μ1 := μ) (μ2 := μ) (μ3 := μ) (u1 hr) (ev_var 0 rfl) (ev_var 2 rfl) ?_ hh hh ⟨held_getD n hl p, rfl⟩ ⟨rfl, rfl, rfl, rfl⟩) (av_cons (ev_var 3 rfl) av_nil)).is ⟨n, _, _, rfl, h2, h1, hn, ?_⟩
    · refine ev_bin (ev_tup (av_cons ev_int av_nil) (by simp) ⟨rfl, rfl⟩) (ev_callB (av_cons (ev_var 3 rfl) av_nil) (cd_len (.inl rfl) ⟨rfl, rfl⟩) B.len PySem.boot_len) (rd_repT rfl (by simp) (by simp) (by omega) (by have := h1.len; simp at this ⊢; omega) ⟨ez, rfl⟩)
    · have e : possible hl ⟨some p, take, getter, give⟩ = lcov (hget n hl p) take := by
        show lcov (hget take.length hl p) take = _
        rw [h1.len]
      rw [e] at hk
      exact hk
end
end Mw
set_option Elab.async false
set_option linter.all false
set_option maxRecDepth 100000
set_option maxHeartbeats 4000000
namespace Mw
open PySem PySem.Spec PyProof.Rows L2 DL Mh
/-! ### carry, shown, value_of, gain, audit -/
abbrev sShown : Stmt := top 13
theorem sc_shown : FnScope ["held", "place"] ["held"] (defScope sShown) := ⟨rfl, rfl, rfl, by decide +kernel, rfl, by decide +kernel, by decide +kernel⟩
def showD (rows : List (Pl × IL)) : D := .tup (rows.map fun e => .tup [.str e.1.1, .str e.1.2, itup e.2])
def waysD (ways : List (Int × IL)) : D := .tup (ways.map fun e => .tup [.int e.1, itup e.2])
def pdShown : PD := fun ds μ k => ∃ (h : Addr) (hl : Held), ds = [.ref h] ∧ μ h = some (.dT (heldK hl)) ∧ (hl.map (·.1)).Nodup ∧ (∀ e ∈ hl, e.1 ∈ DL.places) ∧ ∀ rows : List (Pl × IL), rows.Perm (hl.filter fun e => nz e.2) → k (showD rows) μ
theorem kept_filter {α : Type} (F : α → Bool) (G : α → D) : ∀ (ds : List D) (xs : List α) (f : Nat → D → Bool) (v : Nat → D → D) (hl : ds.length = xs.length) (h : ∀ (i : Nat) d x, ds[i]? = some d → xs[i]? = some x → f i d = F x ∧ v i d = G x), kept ds f v = (xs.filter F).map G := by
  intro ds xs f v hl h
  have key : ∀ n, n ≤ xs.length → keptN n ds f v = ((xs.take n).filter F).map G := by
    intro n
    induction n with
    | zero => intro _; rw [keptN_zero]; rfl
    | succ n ih =>
      intro hn
      have hd : n < ds.length := by omega
      have hx : n < xs.length := by omega
      obtain ⟨h1, h2⟩ := h n _ _ (List.getElem?_eq_getElem hd) (List.getElem?_eq_getElem hx)
      rw [List.take_add_one, List.getElem?_eq_getElem hx, List.filter_append, List.map_append, ← ih (by omega)]
      cases hf : F xs[n] with
      | true =>
        rw [keptN_yes (List.getElem?_eq_getElem hd) (h1.trans hf), h2]
        simp [hf]
      | false =>
        rw [keptN_no (List.getElem?_eq_getElem hd) (h1.trans hf)]
        simp [hf]
  rw [← keptN_all, hl, key _ (Nat.le_refl _), List.take_length]
theorem nodup_sub {α : Type} [DecidableEq α] : ∀ (l m : List α), l.Nodup → (∀ x ∈ l, x ∈ m) → l.length ≤ m.length
  | [], _, _, _ => Nat.zero_le _
  | a :: l, m, hn, hs => by
    rw [List.nodup_cons] at hn
    have h1 := nodup_sub l (m.erase a) hn.2 fun x hx => (List.mem_erase_of_ne (fun e => hn.1 (by rw [← e]; exact hx))).mpr (hs x (List.mem_cons_of_mem _ hx))
    have ha := hs a (List.mem_cons_self ..)
    have h2 := List.length_erase_of_mem ha
    have h3 : 0 < m.length := List.length_pos_of_mem ha
    rw [List.length_cons]
    omega
abbrev sValue : Stmt := top 15
theorem sc_value : FnScope ["stock", "prices", "k"] ["stock", "prices"] (defScope sValue) := ⟨rfl, rfl, rfl, by decide +kernel, rfl, by decide +kernel, by decide +kernel⟩
/-- prices of a size that may be multiplied -/
def Small (ps : IL) : Prop := ∀ i, i < ps.length → -(2 ^ 64) < at0 ps i ∧ at0 ps i < 2 ^ 64
def pdValue : PD := fun ds μ k => ∃ xs ps : List Int, ds = [itup xs, itup ps] ∧ ps.length ≤ xs.length ∧ ps.length ≤ 100 ∧ Small ps ∧ k (.int (val xs ps)) μ
abbrev sGain : Stmt := top 16
theorem sc_gain : FnScope ["book", "history", "number", "prices", "taker", "take", "getter", "give"] ["book", "history", "number", "prices"] (defScope sGain) := ⟨rfl, rfl, rfl, by decide +kernel, rfl, by decide +kernel, by decide +kernel⟩
/-- what the event gains -/
def gainOf (b : Bk) (hs : List Ev) (ps : IL) : Ev → Int
  | .send _ _ _ => 0
  | .land _ _ => 0
  | e => val (flow b hs e).give ps - val (flow b hs e).take ps
/-- the row of the event has stocks of n entries -/
def RowOk (n : Nat) (r : Mh.Row) : Prop := r.take.length = n ∧ r.give.length = n
def pdGain : PD := fun ds μ k => ∃ (b : Bk) (hs : List Ev) (i : Nat) (e : Ev) (ps : IL), ds = [bkD b, hsD hs, .int (i : Nat), itup ps] ∧ hs[i]? = some e ∧ FlowOk b hs e ∧ RowOk b.n (flow b hs e) ∧ b.n ≤ 100 ∧ ps.length = b.n ∧ Small ps ∧ k (.int (gainOf b hs ps e)) μ
abbrev sAudit : Stmt := top 17
theorem sc_audit : FnScope ["book", "history", "prices", "number"] ["book", "history", "prices"] (defScope sAudit) := ⟨rfl, rfl, rfl, by decide +kernel, rfl, by decide +kernel, by decide +kernel⟩
def pdAudit : PD := fun ds μ k => ∃ (b : Bk) (hs : List Ev) (ps : IL), ds = [bkD b, hsD hs, itup ps] ∧ (∀ e ∈ hs, FlowOk b hs e ∧ RowOk b.n (flow b hs e)) ∧ hs.length ≤ 100 ∧ b.n ≤ 100 ∧ ps.length = b.n ∧ Small ps ∧ k (itup (hs.map (gainOf b hs ps))) μ
section
variable {P : Program} {w : World} {K : PySem.W.Frag} {mg : Str → Option Value} {base : Heap} {f : Addr} {fd : FuncData}
theorem ok_carry (F : FunD K "carry" "carry" (defArgs sCarry) (defBody sCarry) (defScope sCarry) [] [] f fd) (B : Bt mg) (cL : Cal P w K mg base "less" 1 pdLess) (cP : Cal P w K mg base "plus" 1 pdPlus) : FnOk P w K mg base CX0 2 f fd ["held", "row"] (dsp K pdCarry) := by
  refine fn_dl F sc_carry (fun ds μ k h => by obtain ⟨b, hs, i, e, rfl, _⟩ := h; rfl) fun cdv A outer s H E hr ds μ k h => ?_
  obtain ⟨h, hl, r, n, rfl, hh, hn, hz, hlen, htl, hgl, hk⟩ := h
  have nd := sc_carry.nd
  refine sv_cons (s1_asg ((ev_var 1 rfl).is (gv_tup rfl (gvs_cons (gv_name 2 nd (gvs_cons (gv_name 3 nd (gvs_cons (gv_name 4 nd (gvs_cons (gv_name 5 nd (gvs_nil ?_))))))))))))
  obtain ⟨taker, take, getter, give⟩ := r
  -- the second part, whatever is held by now
  have second : ∀ hl2 : Held, (∀ e ∈ hl2, e.2.length = n) → hl2.length ≤ 1001 → takeOut hl ⟨taker, take, getter, give⟩ = hl2 → ∀ μ2 : Mem, μ2 = μ.put h (.dT (heldK hl2)) ∨ (μ2 = μ ∧ hl2 = hl) →
      SV (cxOf CX0 P w K mg base ["held", "row", "taker", "take", "getter", "give"] "carry" (defScope sCarry) f cdv A outer s H E).nox [(defBody sCarry).getD 2 (.Pass ⟨0, 0, 0, 0⟩)] [some (.ref h), some (rowD ⟨taker, take, getter, give⟩), some (optP taker), some (itup take), some (optP getter), some (itup give)] μ2
        { nx := fun _ μ' => k .non μ', rt := k } := by
    intro hl2 hl2len hl2z hto μ2 hμ
    have hh2 : μ2 h = some (.dT (heldK hl2)) := by
      rcases hμ with e | ⟨e1, e2⟩
      · rw [e, Mem.put_same]
      · rw [e1, e2, hh]
    have hput : ∀ o, μ2.put h o = μ.put h o := fun o => by
      rcases hμ with e | ⟨e1, e2⟩
      · rw [e, Mem.put_put]
      · rw [e1]
    cases getter with
    | none =>
      refine sv_one (s1_ifB (c1 := false) (μ1 := μ2) (tv_notN (ev_var 4 rfl) ⟨rfl, rfl⟩) (fun h => by cases h) fun _ => sv_nil ?_)
      have e0 : carry hl ⟨taker, take, none, give⟩ = hl2 := hto
      rw [e0] at hk
      rcases hμ with e | ⟨e1, e2⟩
      · rw [e]; exact hk
      · have e3 : μ.put h (.dT (heldK hl)) = μ := by
          funext c
          unfold Mem.put
          split
          · rename_i hc; rw [hc, hh]
          · rfl
        show k .non μ2
        rw [e2, e3] at hk
        rw [e1]
        exact hk
    | some p =>
      have gl : give.length = n := hgl p rfl
      refine sv_one (s1_ifB (c1 := true) (μ1 := μ2) (tv_notN (ev_var 4 rfl) ⟨rfl, rfl⟩) (fun _ => sv_one ?_) fun h => by cases h)
      have ez : (.tup (List.replicate ((give.map D.int).length : Int).toNat [D.int 0]).flatten : D) = itup (zero n) := by
        rw [← zeroD]; simp [gl]
      refine s1_dputT (p := h) (kvs := heldK hl2) (y := plK p) (u1 hr) (ev_callC cP (hr.mono (by omega)) ?_)
      refine (av_cons (ds := [itup give]) (d := itup (hget n hl2 p)) (ev_getT (p := h) (kvs := heldK hl2) (y := plK p) (dx := itup (zero n)) (μ1 := μ2) (μ2 := μ2) (μ3 := μ2) (u1 hr) (ev_var 0 rfl) (ev_var 4 rfl) ?_ hh2 hh2 ⟨held_getD n hl2 p, rfl⟩ ⟨rfl, rfl, rfl, rfl⟩) (av_cons (ev_var 5 rfl) av_nil)).is ⟨_, _, rfl, ?_, ?_, ?_⟩
      · refine ev_bin (ev_tup (av_cons ev_int av_nil) (by simp) ⟨rfl, rfl⟩) (ev_callB (av_cons (ev_var 5 rfl) av_nil) (cd_len (.inl rfl) ⟨rfl, rfl⟩) B.len PySem.boot_len) (rd_repT rfl (by simp) (by simp) (by omega) (by simp; omega) ⟨ez, rfl⟩)
      · rw [hget_len hl2len, gl]; exact Nat.le_refl _
      · rw [hget_len hl2len]; exact hn
      · refine (ev_var 0 rfl).is ⟨rfl, (ev_var 4 rfl).is ⟨rfl, hh2, by rw [heldK_len]; omega, ?_⟩⟩
        have e1 : carry hl ⟨taker, take, some p, give⟩ = aput hl2 p (lplus (hget n hl2 p) give) := by
          show aput (takeOut hl _) p (lplus (hget give.length (takeOut hl _) p) give) = _
          rw [hto, gl]
        rw [e1] at hk
        show k .non (μ2.put h (.dT (putD (heldK hl2) (plK p) (itup (lplus (hget n hl2 p) give)))))
        rw [put_held, hput]
        exact hk
  cases taker with
  | none =>
    refine sv_cons (s1_ifB (c1 := false) (μ1 := μ) (tv_notN (ev_var 2 rfl) ⟨rfl, rfl⟩) (fun h => by cases h) fun _ => sv_nil ?_)
    exact second hl hlen (by omega) rfl μ (.inr ⟨rfl, rfl⟩)
  | some p =>
    have tl : take.length = n := htl p rfl
    refine sv_cons (s1_ifB (c1 := true) (μ1 := μ) (tv_notN (ev_var 2 rfl) ⟨rfl, rfl⟩) (fun _ => sv_one ?_) fun h => by cases h)
    have ez : (.tup (List.replicate ((take.map D.int).length : Int).toNat [D.int 0]).flatten : D) = itup (zero n) := by
      rw [← zeroD]; simp [tl]
    refine s1_dputT (p := h) (kvs := heldK hl) (y := plK p) (u1 hr) (ev_callC cL (hr.mono (by omega)) ?_)
    refine (av_cons (ds := [itup take]) (d := itup (hget n hl p)) (ev_getT (p := h) (kvs := heldK hl) (y := plK p) (dx := itup (zero n)) (μ1 := μ) (μ2 := μ) (μ3 := μ) (u1 hr) (ev_var 0 rfl) (ev_var 2 rfl) ?_ hh hh ⟨held_getD n hl p, rfl⟩ ⟨rfl, rfl, rfl, rfl⟩) (av_cons (ev_var 3 rfl) av_nil)).is ⟨_, _, rfl, ?_, ?_, ?_⟩
    · refine ev_bin (ev_tup (av_cons ev_int av_nil) (by simp) ⟨rfl, rfl⟩) (ev_callB (av_cons (ev_var 3 rfl) av_nil) (cd_len (.inl rfl) ⟨rfl, rfl⟩) B.len PySem.boot_len) (rd_repT rfl (by simp) (by simp) (by omega) (by simp; omega) ⟨ez, rfl⟩)
    · rw [hget_len hlen, tl]; exact Nat.le_refl _
    · rw [hget_len hlen]; exact hn
    · refine (ev_var 0 rfl).is ⟨rfl, (ev_var 2 rfl).is ⟨rfl, hh, by rw [heldK_len]; omega, ?_⟩⟩
      have e0 : takeOut hl ⟨some p, take, getter, give⟩ = aput hl p (lless (hget n hl p) take) := by
        show aput hl p (lless (hget take.length hl p) take) = _
        rw [tl]
      rw [put_held]
      refine second _ (fun e he => ?_) (by have := aput_len hl p (lless (hget n hl p) take); omega) e0 _ (.inl rfl)
      rcases aput_mem he with he | he
      · exact hlen e he
      · subst he
        simp only
        rw [lless_len]
        exact hget_len hlen p
theorem ok_shown (F : FunD K "shown" "shown" (defArgs sShown) (defBody sShown) (defScope sShown) [] [] f fd) (B : Bt mg) : FnOk P w K mg base CX0 1 f fd ["held"] (dsp K pdShown) := by
  refine fn_dl F sc_shown (fun ds μ k h => by obtain ⟨b, hs, rfl, _⟩ := h; rfl) fun cdv A outer s H E hr ds μ k h => ?_
  obtain ⟨h, hl, rfl, hh, hnd, hpl, hk⟩ := h
  have nd := sc_shown.nd
  have hh' : μ h = some (.dT ((hl.map fun e => (e.1, itup e.2)).map ent2D)) := by
    rw [hh]; unfold heldK; rw [List.map_map]; rfl
  have hkeys : (hl.map fun e => (e.1, itup e.2)).map (·.1) = hl.map (·.1) := by rw [List.map_map]; rfl
  have h6 : hl.length ≤ 6 := by
    have := nodup_sub (hl.map (·.1)) DL.places hnd fun x hx => by
      obtain ⟨e, he, rfl⟩ := List.mem_map.mp hx
      exact hpl e he
    rw [List.length_map] at this
    exact this
  refine sv_one (s1_ret (ev_callT0 (T := "tuple") (av_cons0 (EV.mono (ev_lcP0 (own := [("place", 1)]) (k := fun d μ' => μ' = μ ∧ ∃ rows : List (Pl × IL), rows.Perm (hl.filter fun e => nz e.2) ∧ d = .lst (rows.map fun e => .tup [.str e.1.1, .str e.1.2, itup e.2])) 1 ?_ sc_shown)
    fun d μ' ⟨e1, rows, hp, e2⟩ => ?_)) B.tuple (by decide +kernel)))
  · refine iv_lst0 (ev_callB0 (id := "sorted") ((av_cons (ev_var 0 rfl) av_nil).is ?_) B.sorted (by decide +kernel))
    refine cd_sortedT DL.rho6 rfl (u64 hr) hh' (by simp; omega) (fun e he f hf => rho6_ok e ?_ f ?_) fun ys hys => ⟨_, rfl, ?_⟩
    · rw [hkeys] at he
      obtain ⟨x, hx, rfl⟩ := List.mem_map.mp he
      exact hpl x hx
    · rw [hkeys] at hf
      obtain ⟨x, hx, rfl⟩ := List.mem_map.mp hf
      exact hpl x hx
    · rw [hkeys] at hys
      have hin : ∀ i y, ys[i]? = some y → ∃ v, aget hl y = some v := fun i y hy => by
        have := hys.mem_iff.mp (List.mem_of_getElem? hy)
        cases q : aget hl y with
        | none => exact absurd this (aget_none.mp q)
        | some v => exact ⟨v, rfl⟩
      have hyl : ys.length ≤ 6 := by rw [hys.length_eq, List.length_map]; exact h6
      refine ⟨by simp; omega, fun _ _ => trivial, fun i _ => nz ((aget hl (ys.getD i ("", ""))).getD []), fun i _ => .tup [.str (ys.getD i ("", "")).1, .str (ys.getD i ("", "")).2, itup ((aget hl (ys.getD i ("", ""))).getD [])], ?_, ?_, .inl ⟨rfl, ?_⟩⟩
      · intro i d μ' s H C cl fp hd hsub
        rw [List.getElem?_map] at hd
        obtain ⟨y, hy, rfl⟩ : ∃ y, ys[i]? = some y ∧ DL.pairD y = d := by
          cases q : ys[i]? with
          | none => rw [q] at hd; cases hd
          | some e => rw [q] at hd; exact ⟨e, rfl, Option.some.inj hd⟩
        obtain ⟨v, hv⟩ := hin i y hy
        have ey : ys.getD i ("", "") = y := by rw [List.getD_eq_getElem?_getD, hy]; rfl
        show TsV _ _ _ μ' (IsB (nz ((aget hl (ys.getD i ("", ""))).getD [])) μ')
        rw [ey, hv]
        exact ts_one (tv_val (ev_callB (id := "any") (av_cons (ev_dgetT (p := h) (kvs := heldK hl) (y := plK y) (u1 hr) (ev_var 0 rfl) (ev_var 1 rfl) (hsub h _ hh) (by rw [look_held, hv]; rfl) ⟨rfl, rfl⟩) av_nil) (cd_anyT rfl ⟨rfl, rfl⟩) B.any (by decide +kernel)))
      · intro i d μ' s H C cl fp hd hsub hf
        rw [List.getElem?_map] at hd
        obtain ⟨y, hy, rfl⟩ : ∃ y, ys[i]? = some y ∧ DL.pairD y = d := by
          cases q : ys[i]? with
          | none => rw [q] at hd; cases hd
          | some e => rw [q] at hd; exact ⟨e, rfl, Option.some.inj hd⟩
        obtain ⟨v, hv⟩ := hin i y hy
        have ey : ys.getD i ("", "") = y := by rw [List.getD_eq_getElem?_getD, hy]; rfl
        show EV _ _ _ μ' (Is (.tup [.str (ys.getD i ("", "")).1, .str (ys.getD i ("", "")).2, itup ((aget hl (ys.getD i ("", ""))).getD [])]) μ')
        rw [ey, hv]
        exact ev_bin (ev_var 1 rfl) (ev_tup (av_cons (ev_dgetT (p := h) (kvs := heldK hl) (y := plK y) (u1 hr) (ev_var 0 rfl) (ev_var 1 rfl) (hsub h _ hh) (by rw [look_held, hv]; rfl) ⟨rfl, rfl⟩) av_nil) (by simp) ⟨rfl, rfl⟩) (rd_catT rfl (by simp) ⟨rfl, rfl⟩)
      · refine ⟨(ys.filter fun y => nz ((aget hl y).getD [])).map fun y => (y, (aget hl y).getD []), ?_, ?_⟩
        · refine ((hys.filter _).map _).trans (List.Perm.of_eq ?_)
          rw [List.filter_map, List.map_map]
          have e1 : ∀ e ∈ hl, aget hl e.1 = some e.2 := fun e he => aget_of hnd he
          have e2 : hl.filter ((fun y => nz ((aget hl y).getD [])) ∘ fun x => x.1) = hl.filter fun e => nz e.2 := List.filter_congr fun e he => by
            show nz ((aget hl e.1).getD []) = _
            rw [e1 e he]; rfl
          rw [e2]
          refine (List.map_congr_left fun e he => ?_).trans (List.map_id _)
          show (e.1, (aget hl e.1).getD []) = e
          rw [e1 e (List.mem_filter.mp he).1]
          rfl
        · rw [List.map_map]
          congr 1
          exact kept_filter (fun y => nz ((aget hl y).getD [])) (fun y => .tup [.str y.1, .str y.2, itup ((aget hl y).getD [])]) _ ys _ _ (by simp) fun i d y hd hy => by
            have ey : ys.getD i ("", "") = y := by rw [List.getD_eq_getElem?_getD, hy]; rfl
            rw [ey]
            exact ⟨rfl, rfl⟩
  · subst e1 e2
    exact av_nil0 (cd_tuple (.inr .l) (hk rows hp))
theorem ok_value (F : FunD K "value_of" "value_of" (defArgs sValue) (defBody sValue) (defScope sValue) [] [] f fd) (B : Bt mg) : FnOk P w K mg base CX0 1 f fd ["stock", "prices"] (dsp K pdValue) := by
  refine fn_dl F sc_value (fun ds μ k h => by obtain ⟨xs, ys, rfl, _⟩ := h; rfl) fun cdv A outer s H E hr ds μ k h => ?_
  obtain ⟨xs, ps, rfl, h1, h2, hs, hk⟩ := h
  have nd := sc_value.nd
  refine sv_one (s1_ret (ev_callB0 (id := "sum") (av_cons0 ((ev_lcP (own := [("k", 2)]) (k := Is (.lst (((List.range ps.length).map fun k => at0 xs k * at0 ps k).map .int)) μ) 2
    (iv_range B.range (ev_callB (av_cons (ev_var 1 rfl) av_nil) (cd_len (.inl rfl) ⟨rfl, rfl⟩) B.len PySem.boot_len) (by simp; omega) (by omega)) (by simp; omega) (fun _ _ => true) (fun i _ => .int (at0 xs i * at0 ps i)) (fun _ _ => trivial)
    (fun i d μ' s H C cl fp hd _ => ts_nil ⟨rfl, rfl⟩) (fun i d μ' s H C cl fp hd _ _ => ?_) (.inl ⟨?_, rfl⟩) sc_value).is (av_nil0 (cd_sum rfl .l hk)))) B.sum (by decide +kernel)))
  · obtain ⟨hi, rfl⟩ := rg_lt hd
    simp at hi
    exact ev_bin (ev_ix (ev_var 0 rfl) (ev_var 2 rfl) (rd_ixT rfl (it_at (by omega)) ⟨rfl, rfl⟩)) (ev_ix (ev_var 1 rfl) (ev_var 2 rfl) (rd_ixT rfl (it_at hi) ⟨rfl, rfl⟩)) (rd_mul (.inr (hs i hi)) ⟨rfl, rfl⟩)
  · simp [kept_rg]
theorem ok_gain (F : FunD K "gain" "gain" (defArgs sGain) (defBody sGain) (defScope sGain) [] [] f fd) (B : Bt mg) (cF : Cal P w K mg base "flow" 2 pdFlow) (cV : Cal P w K mg base "value_of" 1 pdValue) : FnOk P w K mg base CX0 3 f fd ["book", "history", "number", "prices"] (dsp K pdGain) := by
  refine fn_dl F sc_gain (fun ds μ k h => by obtain ⟨b, hs, i, e, ps, rfl, _⟩ := h; rfl) fun cdv A outer s H E hr ds μ k h => ?_
  obtain ⟨b, hs, i, e, ps, rfl, he, hf, hrow, hn, hp, hsm, hk⟩ := h
  have nd := sc_gain.nd
  have hat : atI (hs.map evD) (i : Int) = some (evD e) := atI_nat (by rw [List.getElem?_map, he]; rfl)
  have hev : ∀ {X' : Cx} {δ : DS} {x : Expr} {p1 : Pos} {y : Expr}, EV X' x δ μ (Is (hsD hs) μ) → EV X' y δ μ (Is (.int (i : Nat)) μ) → (PlainIx y) → EV X' (.Subscript x y p1) δ μ (Is (evD e) μ) := fun hx hy hpl => ev_ix hx hy (rd_ixT rfl hat ⟨rfl, rfl⟩) hpl
  -- the tail
  have tail : gainOf b hs ps e = val (flow b hs e).give ps - val (flow b hs e).take ps → SV (cxOf CX0 P w K mg base ["book", "history", "number", "prices", "taker", "take", "getter", "give"] "gain" (defScope sGain) f cdv A outer s H E).nox ((defBody sGain).drop 1) (startD ["book", "history", "number", "prices", "taker", "take", "getter", "give"] [bkD b, hsD hs, .int (i : Nat), itup ps]) μ
      { nx := fun _ μ' => k .non μ', rt := k } := fun hg => by
    refine sv_cons (s1_asg (ev_callC cF (hr.mono (by omega)) ((av_cons (ev_var 0 rfl) (av_cons (ev_var 1 rfl) (av_cons (ev_var 2 rfl) av_nil))).is ⟨b, hs, i, e, rfl, he, hf, hn, ?_⟩)))
    refine gv_tup rfl (gvs_cons (gv_name 4 nd (gvs_cons (gv_name 5 nd (gvs_cons (gv_name 6 nd (gvs_cons (gv_name 7 nd (gvs_nil ?_)))))))))
    refine sv_one (s1_ret (ev_bin (ev_callC cV (hr.mono (by omega)) ((av_cons (ev_var 7 rfl) (av_cons (ev_var 3 rfl) av_nil)).is ⟨_, ps, rfl, by rw [hrow.2, hp]; exact Nat.le_refl _, by omega, hsm, ⟨rfl, rfl⟩⟩)) (ev_callC cV (hr.mono (by omega)) ((av_cons (ev_var 5 rfl) (av_cons (ev_var 3 rfl) av_nil)).is ⟨_, ps, rfl, by rw [hrow.1, hp]; exact Nat.le_refl _, by omega, hsm, ⟨rfl, rfl⟩⟩)) (rd_sub ?_)))
    rw [← hg]
    exact hk
  cases e with
  | make p m g => exact sv_cons (s1_ifB (c1 := false) (μ1 := μ) (tv_or2 (c1 := false) (c2 := false) (tv_cmp (ev_ix (hev (ev_var 1 rfl) (ev_var 2 rfl) (fun _ _ => rfl)) ev_int (rd_ixT rfl rfl ⟨rfl, rfl⟩)) ev_str (rd_eqS ⟨rfl, rfl⟩) ⟨by decide, rfl⟩) fun _ => tv_cmp (ev_ix (hev (ev_var 1 rfl) (ev_var 2 rfl) (fun _ _ => rfl)) ev_int (rd_ixT rfl rfl ⟨rfl, rfl⟩)) ev_str (rd_eqS ⟨rfl, rfl⟩) ⟨by decide, rfl⟩) (fun h => by cases h) fun _ => sv_nil (tail rfl))
  | hand p m g => exact sv_cons (s1_ifB (c1 := false) (μ1 := μ) (tv_or2 (c1 := false) (c2 := false) (tv_cmp (ev_ix (hev (ev_var 1 rfl) (ev_var 2 rfl) (fun _ _ => rfl)) ev_int (rd_ixT rfl rfl ⟨rfl, rfl⟩)) ev_str (rd_eqS ⟨rfl, rfl⟩) ⟨by decide, rfl⟩) fun _ => tv_cmp (ev_ix (hev (ev_var 1 rfl) (ev_var 2 rfl) (fun _ _ => rfl)) ev_int (rd_ixT rfl rfl ⟨rfl, rfl⟩)) ev_str (rd_eqS ⟨rfl, rfl⟩) ⟨by decide, rfl⟩) (fun h => by cases h) fun _ => sv_nil (tail rfl))
  | forge p g => exact sv_cons (s1_ifB (c1 := false) (μ1 := μ) (tv_or2 (c1 := false) (c2 := false) (tv_cmp (ev_ix (hev (ev_var 1 rfl) (ev_var 2 rfl) (fun _ _ => rfl)) ev_int (rd_ixT rfl rfl ⟨rfl, rfl⟩)) ev_str (rd_eqS ⟨rfl, rfl⟩) ⟨by decide, rfl⟩) fun _ => tv_cmp (ev_ix (hev (ev_var 1 rfl) (ev_var 2 rfl) (fun _ _ => rfl)) ev_int (rd_ixT rfl rfl ⟨rfl, rfl⟩)) ev_str (rd_eqS ⟨rfl, rfl⟩) ⟨by decide, rfl⟩) (fun h => by cases h) fun _ => sv_nil (tail rfl))
  | send p t g => exact sv_cons (s1_ifB (c1 := true) (μ1 := μ) (tv_or2 (c1 := true) (c2 := true) (tv_cmp (ev_ix (hev (ev_var 1 rfl) (ev_var 2 rfl) (fun _ _ => rfl)) ev_int (rd_ixT rfl rfl ⟨rfl, rfl⟩)) ev_str (rd_eqS ⟨rfl, rfl⟩) ⟨by decide, rfl⟩) fun h => by cases h) (fun _ => sv_one (s1_ret (ev_int.is hk))) fun h => by cases h)
  | land p t => exact sv_cons (s1_ifB (c1 := true) (μ1 := μ) (tv_or2 (c1 := false) (c2 := true) (tv_cmp (ev_ix (hev (ev_var 1 rfl) (ev_var 2 rfl) (fun _ _ => rfl)) ev_int (rd_ixT rfl rfl ⟨rfl, rfl⟩)) ev_str (rd_eqS ⟨rfl, rfl⟩) ⟨by decide, rfl⟩) fun _ => tv_cmp (ev_ix (hev (ev_var 1 rfl) (ev_var 2 rfl) (fun _ _ => rfl)) ev_int (rd_ixT rfl rfl ⟨rfl, rfl⟩)) ev_str (rd_eqS ⟨rfl, rfl⟩) ⟨by decide, rfl⟩) (fun _ => sv_one (s1_ret (ev_int.is hk))) fun h => by cases h)
theorem ok_audit (F : FunD K "audit" "audit" (defArgs sAudit) (defBody sAudit) (defScope sAudit) [] [] f fd) (B : Bt mg) (cG : Cal P w K mg base "gain" 3 pdGain) : FnOk P w K mg base CX0 4 f fd ["book", "history", "prices"] (dsp K pdAudit) := by
  refine fn_dl F sc_audit (fun ds μ k h => by obtain ⟨b, hs, ps, rfl, _⟩ := h; rfl) fun cdv A outer s H E hr ds μ k h => ?_
  obtain ⟨b, hs, ps, rfl, hall, hl, hn, hp, hsm, hk⟩ := h
  have nd := sc_audit.nd
  refine sv_one (s1_ret (ev_callT0 (T := "tuple") (av_cons0 ((ev_lcP (own := [("number", 3)]) (k := Is (.lst ((hs.map (gainOf b hs ps)).map .int)) μ) 3
    (iv_range B.range (ev_callB (av_cons (ev_var 1 rfl) av_nil) (cd_len (.inl rfl) ⟨rfl, rfl⟩) B.len PySem.boot_len) (by simp; omega) (by omega)) (by simp; omega) (fun _ _ => true) (fun i _ => .int (gainOf b hs ps (evAt hs i))) (fun _ _ => trivial)
    (fun i d μ' s H C cl fp hd _ => ts_nil ⟨rfl, rfl⟩) (fun i d μ' s H C cl fp hd _ _ => ?_) (.inl ⟨?_, rfl⟩) sc_audit).is (av_nil0 (cd_tuple (.inr .l) hk)))) B.tuple (by decide +kernel)))
  · obtain ⟨hi, rfl⟩ := rg_lt hd
    simp at hi
    have he : hs[i]? = some (evAt hs i) := by
      unfold evAt
      rw [List.getD_eq_getElem?_getD, List.getElem?_eq_getElem hi]; rfl
    obtain ⟨h1, h2⟩ := hall _ (List.mem_of_getElem? he)
    exact ev_callC cG (hr.mono (by omega)) ((av_cons (ev_var 0 rfl) (av_cons (ev_var 1 rfl) (av_cons (ev_var 3 rfl) (av_cons (ev_var 2 rfl) av_nil)))).is ⟨b, hs, i, _, ps, rfl, he, h1, h2, hn, hp, hsm, ⟨rfl, rfl⟩⟩)
  · rw [kept_map _ _ hs (fun e => .int (gainOf b hs ps e)) (by simp)]
    · rw [List.map_map]; rfl
    · intro i d x hd hx
      rw [evAt_of hx]
end
end Mw
set_option Elab.async false
set_option linter.all false
set_option maxRecDepth 100000
set_option maxHeartbeats 4000000
namespace Mw
open PySem PySem.Spec PyProof.Rows L2 DL Mh
theorem mem2 {μ : Mem} {a b : Addr} {o u v : MO} (h : a ≠ b) : ((μ.put a o).put b u).put a v = (μ.put a v).put b u := by
  rw [Mem.put_comm (Ne.symm h), Mem.put_put]
theorem perm_look {κ α : Type} [DecidableEq κ] {l : List (κ × α)} {ys : List κ} {d : α} (nd : (l.map (·.1)).Nodup) (h : ys.Perm (l.map (·.1))) : (ys.map fun y => (y, (aget l y).getD d)).Perm l := by
  refine (h.map _).trans (List.Perm.of_eq ?_)
  rw [List.map_map]
  refine (List.map_congr_left fun e he => ?_).trans (List.map_id _)
  show (e.1, (aget l e.1).getD d) = e
  rw [aget_of nd he]
  rfl
theorem wayStep_len (w : Way) (e : Ev) : (wayStep w e).length ≤ w.length + 1 := by
  cases e with
  | send p t g => exact aput_len w t g
  | land p t => exact Nat.le_succ_of_le (List.length_filter_le _ _)
  | make p m g => exact Nat.le_succ _
  | hand p o g => exact Nat.le_succ _
  | forge p g => exact Nat.le_succ _
theorem Good.way_len {b : Bk} {hs : List Ev} {s : HS} (g : Good b hs s) : s.way.length ≤ hs.length := by
  induction g with
  | nil => exact Nat.le_refl _
  | @snoc hs s e g F new ih =>
    rw [List.length_append, List.length_singleton]
    exact Nat.le_trans (wayStep_len s.way e) (by omega)
theorem SOk.held_len {n : Nat} {s : HS} (h : SOk n s) : s.held.length ≤ 6 := by
  have := nodup_sub (s.held.map (·.1)) DL.places h.hn fun x hx => by
    obtain ⟨e, he, rfl⟩ := List.mem_map.mp hx
    exact (h.hv e he).2
  rw [List.length_map] at this
  exact this
theorem Fits.flowOk {b : Bk} {hs : List Ev} {s : HS} {e : Ev} (F : Fits b hs s e) : FlowOk b hs e := by
  cases e with
  | make p m g => exact F.ok.2.1
  | land p t => obtain ⟨g, _, h⟩ := F.land p t rfl; exact ⟨g, h⟩
  | hand p o g => trivial
  | send p t g => trivial
  | forge p g => trivial
theorem ev_at {hs : List Ev} {i : Nat} (h : i < hs.length) : hs[i]? = some (evAt hs i) := by
  unfold evAt
  rw [List.getD_eq_getElem?_getD, List.getElem?_eq_getElem h]; rfl
theorem wayK_keys (w : Way) : (wayK w).map (·.1) = (w.map (·.1)).map Sum.inl := by simp [wayK]
/-! ### carry_out -/
abbrev sOut : Stmt := top 14
theorem sc_out : FnScope ["book", "history", "held", "way", "number", "row", "ticket"] ["book", "history"] (defScope sOut) := ⟨rfl, rfl, rfl, by decide +kernel, rfl, by decide +kernel, by decide +kernel⟩
def pdOut : PD := fun ds μ k => ∃ (b : Bk) (hs : List Ev) (s : HS), ds = [bkD b, hsD hs] ∧ BOk b ∧ Good b hs s ∧ hs.length ≤ 50 ∧ ∀ rows ways, Shows s rows ways → k (.tup [showD rows, waysD ways]) μ
section
variable {P : Program} {w : World} {K : PySem.W.Frag} {mg : Str → Option Value} {base : Heap} {f : Addr} {fd : FuncData}
theorem ok_out (F : FunD K "carry_out" "carry_out" (defArgs sOut) (defBody sOut) (defScope sOut) [] [] f fd) (B : Bt mg) (cF : Cal P w K mg base "flow" 2 pdFlow) (cP : Cal P w K mg base "is_possible" 2 pdPoss) (cC : Cal P w K mg base "carry" 2 pdCarry) (cS : Cal P w K mg base "shown" 1 pdShown) :
    FnOk P w K mg base CX0 3 f fd ["book", "history"] (dsp K pdOut) := by
  refine fn_dl F sc_out (fun ds μ k h => by obtain ⟨b, hs, s, rfl, _⟩ := h; rfl) fun cdv A outer s H E hr ds μ k h => ?_
  obtain ⟨b, hs, sf, rfl, BO, gd, hl, hk⟩ := h
  have nd := sc_out.nd
  have hn6 := BO.n6
  refine sv_cons (s1_set 2 nd (ev_dnewT fun hd nhd => ?_))
  refine sv_cons (s1_set 3 nd (ev_dnewK fun wd nwd => ?_))
  have hne : hd ≠ wd := fun e => by subst e; rw [Mem.put_same] at nwd; cases nwd
  have nwd' : μ wd = none := by rw [Mem.put_ne (Ne.symm hne)] at nwd; exact nwd
  refine sv_cons (s1_forR (n := hs.length) 4 PassesOwn.never rfl nd (iv_range B.range (ev_callB (av_cons (ev_var 1 rfl) av_nil) (cd_len (.inl rfl) ⟨by simp, rfl⟩) B.len PySem.boot_len) (by omega) (by omega))
    (fun i δ' μ' => ∃ (si : HS) (z1 z2 : Option D), Good b (hs.take i) si ∧ δ' = [some (bkD b), some (hsD hs), some (.ref hd), some (.ref wd), z1, z2, none] ∧ μ' = (μ.put hd (.dT (heldK si.held))).put wd (.dK (wayK si.way)))
    ⟨⟨[], []⟩, none, none, by simpa using Good.nil, rfl, rfl⟩ (fun i δ' μ' hi hI => ?_) (fun δ' μ' hI => ?_))
  · obtain ⟨si, z1, z2, gi, rfl, rfl⟩ := hI
    have hin : i < hs.length := by omega
    have he := ev_at hin
    generalize evAt hs i = e at he
    obtain ⟨s', g', _, q⟩ := gd.at i (by omega)
    have es := gi.uniq g'
    subst es
    obtain ⟨Fi, new, gn⟩ := q e he
    have so := gi.sok BO
    have R := Fi.row BO so
    have hh : ((μ.put hd (.dT (heldK si.held))).put wd (.dK (wayK si.way))) hd = some (.dT (heldK si.held)) := by rw [Mem.put_ne hne, Mem.put_same]
    have hat : atI (hs.map evD) (i : Int) = some (evD e) := atI_nat (by rw [List.getElem?_map, he]; rfl)
    refine sv_cons (s1_set 5 nd (ev_callC cF (hr.mono (by omega)) ((av_cons (ev_var 0 rfl) (av_cons (ev_var 1 rfl) (av_cons (ev_var 4 rfl) av_nil))).is ⟨b, hs, i, e, rfl, he, (Mw.Fits.flowOk Fi), by omega, ?_⟩)))
    refine sv_cons (s1_ifB (c1 := false) (tv_not2 (c1 := true) (tv_val (ev_callC cP (hr.mono (by omega)) ((av_cons (ev_var 2 rfl) (av_cons (ev_var 5 rfl) av_nil)).is ⟨hd, si.held, _, b.n, rfl, hh, by omega, fun p hp => ⟨(R.tp p hp).2, hget_ok so p⟩, ⟨by rw [Fi.pos], rfl⟩⟩)))) (fun h => by cases h) fun _ => sv_nil ?_)
    refine sv_cons (s1_expr (ev_callC cC (hr.mono (by omega)) ((av_cons (ev_var 2 rfl) (av_cons (ev_var 5 rfl) av_nil)).is ⟨hd, si.held, _, b.n, rfl, hh, by omega, by have := Mw.SOk.held_len so; omega, fun x hx => (so.hv x hx).1.len, fun p _ => R.tl, fun p hp => (R.gv p hp).1.len, ?_⟩)))
    rw [mem2 hne]
    have wl := Mw.Good.way_len gi
    rw [List.length_take] at wl
    have wz : (wayK si.way).length < 100000 := by simp only [wayK, List.length_map]; omega
    cases e with
    | send p t g =>
      refine sv_one (s1_ifB (c1 := true) (tv_cmp (ev_ix (ev_ix (ev_var 1 rfl) (ev_var 4 rfl) (rd_ixT rfl hat ⟨rfl, rfl⟩)) ev_int (rd_ixT rfl rfl ⟨rfl, rfl⟩)) ev_str (rd_eqS ⟨rfl, rfl⟩) ⟨rfl, rfl⟩) (fun _ => sv_one ?_) fun h => by cases h)
      refine s1_dput (p := wd) (kvs := wayK si.way) (y := Sum.inl t) (u1 hr) ((ev_ix (ev_ix (ev_var 1 rfl) (ev_var 4 rfl) (rd_ixT rfl hat ⟨rfl, rfl⟩)) ev_int (rd_ixT rfl rfl ⟨rfl, rfl⟩)).is ((ev_var 3 rfl).is ⟨rfl, (ev_ix (ev_ix (ev_var 1 rfl) (ev_var 4 rfl) (rd_ixT rfl hat ⟨rfl, rfl⟩)) ev_int (rd_ixT rfl rfl ⟨rfl, rfl⟩)).is ⟨rfl, Mem.put_same, wz, ?_⟩⟩))
      rw [put_way, Mem.put_put]
      exact ⟨_, _, _, gn, rfl, rfl⟩
    | land p t =>
      obtain ⟨g, hg, _⟩ := Fi.land p t rfl
      refine sv_one (s1_ifB (c1 := false) (tv_cmp (ev_ix (ev_ix (ev_var 1 rfl) (ev_var 4 rfl) (rd_ixT rfl hat ⟨rfl, rfl⟩)) ev_int (rd_ixT rfl rfl ⟨rfl, rfl⟩)) ev_str (rd_eqS ⟨rfl, rfl⟩) ⟨by decide, rfl⟩) (fun h => by cases h) fun _ => sv_one ?_)
      refine (s1_ifB (c1 := true) (tv_cmp (ev_ix (ev_ix (ev_var 1 rfl) (ev_var 4 rfl) (rd_ixT rfl hat ⟨rfl, rfl⟩)) ev_int (rd_ixT rfl rfl ⟨rfl, rfl⟩)) ev_str (rd_eqS ⟨rfl, rfl⟩) ⟨rfl, rfl⟩) (fun _ => sv_one ?_) fun h => by cases h)
      refine s1_expr (ev_pop (p := wd) (kvs := wayK si.way) (y := Sum.inl t) (d := itup g) (ev_var 3 rfl) (ev_ix (ev_ix (ev_var 1 rfl) (ev_var 4 rfl) (rd_ixT rfl hat ⟨rfl, rfl⟩)) ev_int (rd_ixT rfl rfl ⟨rfl, rfl⟩)) Mem.put_same Mem.put_same (by rw [look_way, hg]; rfl) ?_ ⟨rfl, rfl, rfl, rfl⟩)
      rw [drop_way, Mem.put_put]
      exact ⟨_, _, _, gn, rfl, rfl⟩
    | make p m g =>
      exact sv_one (s1_ifB (c1 := false) (tv_cmp (ev_ix (ev_ix (ev_var 1 rfl) (ev_var 4 rfl) (rd_ixT rfl hat ⟨rfl, rfl⟩)) ev_int (rd_ixT rfl rfl ⟨rfl, rfl⟩)) ev_str (rd_eqS ⟨rfl, rfl⟩) ⟨by decide, rfl⟩) (fun h => by cases h) fun _ => sv_one
        (s1_ifB (c1 := false) (tv_cmp (ev_ix (ev_ix (ev_var 1 rfl) (ev_var 4 rfl) (rd_ixT rfl hat ⟨rfl, rfl⟩)) ev_int (rd_ixT rfl rfl ⟨rfl, rfl⟩)) ev_str (rd_eqS ⟨rfl, rfl⟩) ⟨by decide, rfl⟩) (fun h => by cases h) fun _ => sv_nil ⟨_, _, _, gn, rfl, rfl⟩))
    | hand p m g =>
      exact sv_one (s1_ifB (c1 := false) (tv_cmp (ev_ix (ev_ix (ev_var 1 rfl) (ev_var 4 rfl) (rd_ixT rfl hat ⟨rfl, rfl⟩)) ev_int (rd_ixT rfl rfl ⟨rfl, rfl⟩)) ev_str (rd_eqS ⟨rfl, rfl⟩) ⟨by decide, rfl⟩) (fun h => by cases h) fun _ => sv_one
        (s1_ifB (c1 := false) (tv_cmp (ev_ix (ev_ix (ev_var 1 rfl) (ev_var 4 rfl) (rd_ixT rfl hat ⟨rfl, rfl⟩)) ev_int (rd_ixT rfl rfl ⟨rfl, rfl⟩)) ev_str (rd_eqS ⟨rfl, rfl⟩) ⟨by decide, rfl⟩) (fun h => by cases h) fun _ => sv_nil ⟨_, _, _, gn, rfl, rfl⟩))
    | forge p g =>
      exact sv_one (s1_ifB (c1 := false) (tv_cmp (ev_ix (ev_ix (ev_var 1 rfl) (ev_var 4 rfl) (rd_ixT rfl hat ⟨rfl, rfl⟩)) ev_int (rd_ixT rfl rfl ⟨rfl, rfl⟩)) ev_str (rd_eqS ⟨rfl, rfl⟩) ⟨by decide, rfl⟩) (fun h => by cases h) fun _ => sv_one
        (s1_ifB (c1 := false) (tv_cmp (ev_ix (ev_ix (ev_var 1 rfl) (ev_var 4 rfl) (rd_ixT rfl hat ⟨rfl, rfl⟩)) ev_int (rd_ixT rfl rfl ⟨rfl, rfl⟩)) ev_str (rd_eqS ⟨rfl, rfl⟩) ⟨by decide, rfl⟩) (fun h => by cases h) fun _ => sv_nil ⟨_, _, _, gn, rfl, rfl⟩))
  · obtain ⟨si, z1, z2, gi, rfl, rfl⟩ := hI
    have es : si = sf := by
      rw [Int.toNat_natCast, List.take_length] at gi
      exact gi.uniq gd
    subst es
    have so := gd.sok BO
    have hh : ((μ.put hd (.dT (heldK si.held))).put wd (.dK (wayK si.way))) hd = some (.dT (heldK si.held)) := by rw [Mem.put_ne hne, Mem.put_same]
    have wl := Mw.Good.way_len gd
    refine sv_one (s1_ret (ev_drop (ev_tup0 (av_cons0 (ev_callC cS (hr.mono (by omega)) ((av_cons (ev_var 2 rfl) av_nil).is ⟨hd, si.held, rfl, hh, so.hn, fun e he => (so.hv e he).2, fun rows hrows => ?_⟩))))))
    refine av_cons0 (ev_callT0 (T := "tuple") (av_cons0 (EV.mono (ev_lcP0 (own := [("ticket", 6)]) (k := fun d μ' => μ' = (μ.put hd (.dT (heldK si.held))).put wd (.dK (wayK si.way)) ∧ ∃ ways : List (Int × IL), ways.Perm si.way ∧ d = .lst (ways.map fun e => .tup [.int e.1, itup e.2])) 6 ?_ sc_out)
      fun d μ' ⟨e1, ways, hp, e2⟩ => ?_)) B.tuple (by decide +kernel))
    · refine iv_lst0 (ev_callB0 (id := "sorted") ((av_cons (ev_var 3 rfl) av_nil).is ?_) B.sorted (by decide +kernel))
      refine cd_sortedDI (ks := si.way.map (·.1)) rfl Mem.put_same (wayK_keys _) (by rw [List.length_map]; omega) fun ys hys _ => ⟨_, rfl, ?_⟩
      have hin : ∀ i y, ys[i]? = some y → ∃ v, aget si.way y = some v := fun i y hy => by
        have := hys.mem_iff.mp (List.mem_of_getElem? hy)
        cases q : aget si.way y with
        | none => exact absurd this (aget_none.mp q)
        | some v => exact ⟨v, rfl⟩
      have hyl : ys.length ≤ 50 := by rw [hys.length_eq, List.length_map]; omega
      refine ⟨by simp; omega, fun _ _ => trivial, fun i _ => true, fun i _ => .tup [.int (ys.getD i 0), itup ((aget si.way (ys.getD i 0)).getD [])], ?_, ?_, .inl ⟨rfl, ?_⟩⟩
      · intro i d μ' s H C cl fp hd hsub
        exact ts_nil ⟨rfl, rfl⟩
      · intro i d μ' s H C cl fp hd hsub hf
        rw [List.getElem?_map] at hd
        obtain ⟨y, hy, rfl⟩ : ∃ y, ys[i]? = some y ∧ D.int y = d := by
          cases q : ys[i]? with
          | none => rw [q] at hd; cases hd
          | some e => rw [q] at hd; exact ⟨e, rfl, Option.some.inj hd⟩
        obtain ⟨v, hv⟩ := hin i y hy
        have ey : ys.getD i 0 = y := by rw [List.getD_eq_getElem?_getD, hy]; rfl
        show EV _ _ _ μ' (Is (.tup [.int (ys.getD i 0), itup ((aget si.way (ys.getD i 0)).getD [])]) μ')
        rw [ey, hv]
        exact ev_tup (av_cons (ev_var 6 rfl) (av_cons (ev_dget (p := wd) (kvs := wayK si.way) (y := Sum.inl y) (u1 hr) (ev_var 3 rfl) (ev_var 6 rfl) (hsub wd _ Mem.put_same) (by rw [look_way, hv]; rfl) ⟨rfl, rfl⟩) av_nil)) (by simp) ⟨rfl, rfl⟩
      · refine ⟨ys.map fun y => (y, (aget si.way y).getD []), perm_look so.wn hys, ?_⟩
        rw [List.map_map]
        congr 1
        exact kept_map _ _ ys (fun y => .tup [.int y, itup ((aget si.way y).getD [])]) (by simp) fun i d y hd hy => by
          have ey : ys.getD i 0 = y := by rw [List.getD_eq_getElem?_getD, hy]; rfl
          rw [ey]
    · subst e1 e2
      refine av_nil0 (cd_tuple (.inr .l) (av_nil0 ⟨by simp, μ, ?_, hk rows ways ⟨hrows, hp⟩⟩))
      exact (sub_put nhd).trans (sub_put (by rw [Mem.put_ne (Ne.symm hne)]; exact nwd'))
end
end Mw
set_option Elab.async false
set_option linter.all false
set_option maxRecDepth 100000
set_option maxHeartbeats 4000000
namespace Mw
open PySem PySem.Spec PyProof.Rows L2 DL Mh
def natsD (xs : List Nat) : List D := xs.map fun i => .int (i : Nat)
theorem WayRuns.at {hs : List Ev} : ∀ {l : List Ev} {w : Way} {i : Nat} {e : Ev}, WayRuns w l → l[i]? = some e → ∀ p t, e = .land p t → ∃ g, aget ((l.take i).foldl wayStep w) t = some g
  | [], _, _, _, _, h => by simp at h
  | x :: l, w, 0, e, r, h => by
    have : x = e := by simpa using h
    subst this
    exact r.1
  | x :: l, w, i + 1, e, r, h => by
    have h : l[i]? = some e := by simpa using h
    exact fun p t hp => WayRuns.at (hs := hs) (w := wayStep w x) r.2 h p t hp
theorem fold_len : ∀ (l : List Ev) (w : Way), (l.foldl wayStep w).length ≤ w.length + l.length
  | [], w => Nat.le_refl _
  | e :: l, w => by
    have h1 := fold_len l (wayStep w e)
    have h2 := wayStep_len w e
    rw [List.foldl_cons, List.length_cons]
    omega
/-! ### way_of, strike -/
abbrev sWayOf : Stmt := top 35
theorem sc_wayOf : FnScope ["history", "stands", "way", "number", "ticket"] ["history", "stands"] (defScope sWayOf) := ⟨rfl, rfl, rfl, by decide +kernel, rfl, by decide +kernel, by decide +kernel⟩
def pdWayOf : PD := fun ds μ k => ∃ (hs : List Ev) (sp : Addr) (st : List Nat), ds = [hsD hs, .ref sp] ∧ μ sp = some (.lst (natsD st)) ∧ (∀ i ∈ st, i < hs.length) ∧ WayRuns [] (st.map (evAt hs)) ∧ (((st.map (evAt hs)).foldl wayStep []).map (·.1)).Nodup ∧ st.length ≤ 50 ∧
  ∀ ways : List (Int × IL), ways.Perm ((st.map (evAt hs)).foldl wayStep []) → k (waysD ways) μ
abbrev sStrike : Stmt := top 36
theorem sc_strike : FnScope ["book", "history", "recall", "held", "stands", "struck", "sent", "number", "event", "row"] ["book", "history", "recall"] (defScope sStrike) := ⟨rfl, rfl, rfl, by decide +kernel, rfl, by decide +kernel, by decide +kernel⟩
def endOf (b : Bk) (hs : List Ev) (rec : List Int) : HS := ⟨(srun b hs rec hs.length).held, ((srun b hs rec hs.length).stands.map (evAt hs)).foldl wayStep []⟩
def pdStrike : PD := fun ds μ k => ∃ (b : Bk) (hs : List Ev) (rec : List Int) (s : HS) (ps : IL), ds = [bkD b, hsD hs, itup rec] ∧ BOk b ∧ Good b hs s ∧ POk b ps ∧ hs.length ≤ 50 ∧ (∀ i : Nat, i < hs.length → rec.contains (i : Int) = true → ∃ p x, evAt hs i = .forge p x) ∧
  ∀ (st : D) rows ways, Shows (endOf b hs rec) rows ways → k (.tup [st, showD rows, waysD ways]) μ
def M4 (μ : Mem) (a b c d : Addr) (o1 o2 o3 o4 : MO) : Mem := (((μ.put a o1).put b o2).put c o3).put d o4
structure Ne4 (a b c d : Addr) : Prop where
  ab : a ≠ b
  ac : a ≠ c
  ad : a ≠ d
  bc : b ≠ c
  bd : b ≠ d
  cd : c ≠ d
section
variable {μ : Mem} {a b c d : Addr} {o1 o2 o3 o4 o : MO}
theorem M4.g1 (n : Ne4 a b c d) : M4 μ a b c d o1 o2 o3 o4 a = some o1 := by unfold M4; rw [Mem.put_ne n.ad, Mem.put_ne n.ac, Mem.put_ne n.ab, Mem.put_same]
theorem M4.g2 (n : Ne4 a b c d) : M4 μ a b c d o1 o2 o3 o4 b = some o2 := by unfold M4; rw [Mem.put_ne n.bd, Mem.put_ne n.bc, Mem.put_same]
theorem M4.g3 (n : Ne4 a b c d) : M4 μ a b c d o1 o2 o3 o4 c = some o3 := by unfold M4; rw [Mem.put_ne n.cd, Mem.put_same]
theorem M4.g4 (n : Ne4 a b c d) : M4 μ a b c d o1 o2 o3 o4 d = some o4 := by unfold M4; rw [Mem.put_same]
theorem M4.p1 (n : Ne4 a b c d) : (M4 μ a b c d o1 o2 o3 o4).put a o = M4 μ a b c d o o2 o3 o4 := by
  unfold M4
  rw [Mem.put_comm (Ne.symm n.ad), Mem.put_comm (Ne.symm n.ac), Mem.put_comm (Ne.symm n.ab), Mem.put_put]
theorem M4.p2 (n : Ne4 a b c d) : (M4 μ a b c d o1 o2 o3 o4).put b o = M4 μ a b c d o1 o o3 o4 := by
  unfold M4
  rw [Mem.put_comm (Ne.symm n.bd), Mem.put_comm (Ne.symm n.bc), Mem.put_put]
theorem M4.p3 (n : Ne4 a b c d) : (M4 μ a b c d o1 o2 o3 o4).put c o = M4 μ a b c d o1 o2 o o4 := by
  unfold M4
  rw [Mem.put_comm (Ne.symm n.cd), Mem.put_put]
theorem M4.p4 (n : Ne4 a b c d) : (M4 μ a b c d o1 o2 o3 o4).put d o = M4 μ a b c d o1 o2 o3 o := by
  unfold M4
  rw [Mem.put_put]
end
def landBad (sent : List Int) : Ev → Bool
  | .land _ t => !sent.contains t
  | _ => false
theorem stands_bad {b : Bk} {hs : List Ev} {held : Held} {sent : List Int} {e : Ev} : standsAt b hs held sent e = !(landBad sent e || !possible held (flow b hs e)) := by
  unfold standsAt landBad
  cases e <;> simp
theorem ne_new {μ : Mem} {a b : Addr} {o : MO} (h : μ.put a o b = none) : a ≠ b ∧ μ b = none := by
  have hne : a ≠ b := fun e => by subst e; rw [Mem.put_same] at h; cases h
  exact ⟨hne, by rw [Mem.put_ne (Ne.symm hne)] at h; exact h⟩
section
variable {P : Program} {w : World} {K : PySem.W.Frag} {mg : Str → Option Value} {base : Heap} {f : Addr} {fd : FuncData}
theorem ok_wayOf (F : FunD K "way_of" "way_of" (defArgs sWayOf) (defBody sWayOf) (defScope sWayOf) [] [] f fd) (B : Bt mg) : FnOk P w K mg base CX0 1 f fd ["history", "stands"] (dsp K pdWayOf) := by
  refine fn_dl F sc_wayOf (fun ds μ k h => by obtain ⟨hs, s, st, rfl, _⟩ := h; rfl) fun cdv A outer s H E hr ds μ k h => ?_
  obtain ⟨hs, sp, st, rfl, hsp, hin, hruns, hnd, hl, hk⟩ := h
  have nd := sc_wayOf.nd
  refine sv_cons (s1_set 2 nd (ev_dnewK fun wd nwd => ?_))
  have hne : sp ≠ wd := fun e => by subst e; rw [hsp] at nwd; cases nwd
  refine sv_cons (s1_for PassesOwn.never rfl (iv_mem (p := sp) (ds := natsD st) (ev_var 1 rfl) (by rw [Mem.put_ne hne]; exact hsp))
    (fun i δ' μ' => ∃ z : Option D, δ' = [some (hsD hs), some (.ref sp), some (.ref wd), z, none] ∧ μ' = μ.put wd (.dK (wayK (((st.take i).map (evAt hs)).foldl wayStep []))))
    ⟨none, rfl, rfl⟩ (fun i δ' μ' hI => by obtain ⟨z, _, rfl⟩ := hI; rw [Mem.put_ne hne]; exact hsp) (fun i d δ' μ' hd hI => ?_) (fun δ' μ' hI => ?_))
  · obtain ⟨z, rfl, rfl⟩ := hI
    unfold natsD at hd
    rw [List.getElem?_map] at hd
    obtain ⟨j, hj, rfl⟩ : ∃ j, st[i]? = some j ∧ D.int (j : Nat) = d := by
      cases q : st[i]? with
      | none => rw [q] at hd; cases hd
      | some e => rw [q] at hd; exact ⟨e, rfl, Option.some.inj hd⟩
    have hjl := hin j (List.mem_of_getElem? hj)
    have he := ev_at hjl
    have eat : (st.map (evAt hs))[i]? = some (evAt hs j) := by rw [List.getElem?_map, hj]; rfl
    have hland := WayRuns.at (hs := hs) hruns eat
    have enext : ((st.take (i + 1)).map (evAt hs)).foldl wayStep [] = wayStep (((st.take i).map (evAt hs)).foldl wayStep []) (evAt hs j) := by
      rw [List.take_add_one, hj, List.map_append, List.foldl_append]
      rfl
    rw [← List.map_take] at hland
    have hil : i < st.length := (List.getElem?_eq_some_iff.mp hj).1
    have wz : (wayK (((st.take i).map (evAt hs)).foldl wayStep [])).length < 100000 := by
      have := fold_len ((st.take i).map (evAt hs)) []
      simp only [wayK, List.length_map, List.length_take, List.length_nil] at this ⊢
      omega
    rw [enext]
    generalize ((st.take i).map (evAt hs)).foldl wayStep [] = wy at hland wz ⊢
    generalize evAt hs j = e at he hland ⊢
    have hat : atI (hs.map evD) (j : Int) = some (evD e) := atI_nat (by rw [List.getElem?_map, he]; rfl)
    refine gv_name 3 nd ?_
    cases e with
    | send p t g =>
      refine sv_one (s1_ifB (c1 := true) (tv_cmp (ev_ix (ev_ix (ev_var 0 rfl) (ev_var 3 rfl) (rd_ixT rfl hat ⟨rfl, rfl⟩)) ev_int (rd_ixT rfl rfl ⟨rfl, rfl⟩)) ev_str (rd_eqS ⟨rfl, rfl⟩) ⟨rfl, rfl⟩) (fun _ => sv_one ?_) fun h => by cases h)
      refine s1_dput (p := wd) (kvs := wayK wy) (y := Sum.inl t) (u1 hr) ((ev_ix (ev_ix (ev_var 0 rfl) (ev_var 3 rfl) (rd_ixT rfl hat ⟨rfl, rfl⟩)) ev_int (rd_ixT rfl rfl ⟨rfl, rfl⟩)).is ((ev_var 2 rfl).is ⟨rfl, (ev_ix (ev_ix (ev_var 0 rfl) (ev_var 3 rfl) (rd_ixT rfl hat ⟨rfl, rfl⟩)) ev_int (rd_ixT rfl rfl ⟨rfl, rfl⟩)).is ⟨rfl, Mem.put_same, wz, ?_⟩⟩))
      rw [put_way, Mem.put_put]
      exact ⟨_, rfl, rfl⟩
    | land p t =>
      obtain ⟨g, hg⟩ := hland p t rfl
      refine sv_one (s1_ifB (c1 := false) (tv_cmp (ev_ix (ev_ix (ev_var 0 rfl) (ev_var 3 rfl) (rd_ixT rfl hat ⟨rfl, rfl⟩)) ev_int (rd_ixT rfl rfl ⟨rfl, rfl⟩)) ev_str (rd_eqS ⟨rfl, rfl⟩) ⟨by decide, rfl⟩) (fun h => by cases h) fun _ => sv_one ?_)
      refine (s1_ifB (c1 := true) (tv_cmp (ev_ix (ev_ix (ev_var 0 rfl) (ev_var 3 rfl) (rd_ixT rfl hat ⟨rfl, rfl⟩)) ev_int (rd_ixT rfl rfl ⟨rfl, rfl⟩)) ev_str (rd_eqS ⟨rfl, rfl⟩) ⟨rfl, rfl⟩) (fun _ => sv_one ?_) fun h => by cases h)
      refine s1_expr (ev_pop (p := wd) (kvs := wayK wy) (y := Sum.inl t) (d := itup g) (ev_var 2 rfl) (ev_ix (ev_ix (ev_var 0 rfl) (ev_var 3 rfl) (rd_ixT rfl hat ⟨rfl, rfl⟩)) ev_int (rd_ixT rfl rfl ⟨rfl, rfl⟩)) Mem.put_same Mem.put_same (by rw [look_way, hg]; rfl) ?_ ⟨rfl, rfl, rfl, rfl⟩)
      rw [drop_way, Mem.put_put]
      exact ⟨_, rfl, rfl⟩
    | make p m g =>
      exact sv_one (s1_ifB (c1 := false) (tv_cmp (ev_ix (ev_ix (ev_var 0 rfl) (ev_var 3 rfl) (rd_ixT rfl hat ⟨rfl, rfl⟩)) ev_int (rd_ixT rfl rfl ⟨rfl, rfl⟩)) ev_str (rd_eqS ⟨rfl, rfl⟩) ⟨by decide, rfl⟩) (fun h => by cases h) fun _ => sv_one
        (s1_ifB (c1 := false) (tv_cmp (ev_ix (ev_ix (ev_var 0 rfl) (ev_var 3 rfl) (rd_ixT rfl hat ⟨rfl, rfl⟩)) ev_int (rd_ixT rfl rfl ⟨rfl, rfl⟩)) ev_str (rd_eqS ⟨rfl, rfl⟩) ⟨by decide, rfl⟩) (fun h => by cases h) fun _ => sv_nil ⟨_, rfl, rfl⟩))
    | hand p m g =>
      exact sv_one (s1_ifB (c1 := false) (tv_cmp (ev_ix (ev_ix (ev_var 0 rfl) (ev_var 3 rfl) (rd_ixT rfl hat ⟨rfl, rfl⟩)) ev_int (rd_ixT rfl rfl ⟨rfl, rfl⟩)) ev_str (rd_eqS ⟨rfl, rfl⟩) ⟨by decide, rfl⟩) (fun h => by cases h) fun _ => sv_one
        (s1_ifB (c1 := false) (tv_cmp (ev_ix (ev_ix (ev_var 0 rfl) (ev_var 3 rfl) (rd_ixT rfl hat ⟨rfl, rfl⟩)) ev_int (rd_ixT rfl rfl ⟨rfl, rfl⟩)) ev_str (rd_eqS ⟨rfl, rfl⟩) ⟨by decide, rfl⟩) (fun h => by cases h) fun _ => sv_nil ⟨_, rfl, rfl⟩))
    | forge p g =>
      exact sv_one (s1_ifB (c1 := false) (tv_cmp (ev_ix (ev_ix (ev_var 0 rfl) (ev_var 3 rfl) (rd_ixT rfl hat ⟨rfl, rfl⟩)) ev_int (rd_ixT rfl rfl ⟨rfl, rfl⟩)) ev_str (rd_eqS ⟨rfl, rfl⟩) ⟨by decide, rfl⟩) (fun h => by cases h) fun _ => sv_one
        (s1_ifB (c1 := false) (tv_cmp (ev_ix (ev_ix (ev_var 0 rfl) (ev_var 3 rfl) (rd_ixT rfl hat ⟨rfl, rfl⟩)) ev_int (rd_ixT rfl rfl ⟨rfl, rfl⟩)) ev_str (rd_eqS ⟨rfl, rfl⟩) ⟨by decide, rfl⟩) (fun h => by cases h) fun _ => sv_nil ⟨_, rfl, rfl⟩))
  · obtain ⟨z, rfl, rfl⟩ := hI
    have etk : st.take (natsD st).length = st := by unfold natsD; rw [List.length_map, List.take_length]
    rw [etk]
    have wl := fold_len (st.map (evAt hs)) []
    rw [List.length_map, List.length_nil] at wl
    generalize (st.map (evAt hs)).foldl wayStep [] = wy at hnd hk wl ⊢
    refine sv_one (s1_ret (ev_drop (ev_callT0 (T := "tuple") (av_cons0 (EV.mono (ev_lcP0 (own := [("ticket", 4)]) (k := fun d μ' => μ' = μ.put wd (.dK (wayK wy)) ∧ ∃ ways : List (Int × IL), ways.Perm wy ∧ d = .lst (ways.map fun e => .tup [.int e.1, itup e.2])) 4 ?_ sc_wayOf)
      fun d μ' ⟨e1, ways, hp, e2⟩ => ?_)) B.tuple (by decide +kernel))))
    · refine iv_lst0 (ev_callB0 (id := "sorted") ((av_cons (ev_var 2 rfl) av_nil).is ?_) B.sorted (by decide +kernel))
      refine cd_sortedDI (ks := wy.map (·.1)) rfl Mem.put_same (wayK_keys _) (by rw [List.length_map]; omega) fun ys hys _ => ⟨_, rfl, ?_⟩
      have hin : ∀ i y, ys[i]? = some y → ∃ v, aget wy y = some v := fun i y hy => by
        have := hys.mem_iff.mp (List.mem_of_getElem? hy)
        cases q : aget wy y with
        | none => exact absurd this (aget_none.mp q)
        | some v => exact ⟨v, rfl⟩
      have hyl : ys.length ≤ 50 := by rw [hys.length_eq, List.length_map]; omega
      refine ⟨by simp; omega, fun _ _ => trivial, fun i _ => true, fun i _ => .tup [.int (ys.getD i 0), itup ((aget wy (ys.getD i 0)).getD [])], ?_, ?_, .inl ⟨rfl, ?_⟩⟩
      · intro i d μ' s H C cl fp hd hsub
        exact ts_nil ⟨rfl, rfl⟩
      · intro i d μ' s H C cl fp hd hsub hf
        rw [List.getElem?_map] at hd
        obtain ⟨y, hy, rfl⟩ : ∃ y, ys[i]? = some y ∧ D.int y = d := by
          cases q : ys[i]? with
          | none => rw [q] at hd; cases hd
          | some e => rw [q] at hd; exact ⟨e, rfl, Option.some.inj hd⟩
        obtain ⟨v, hv⟩ := hin i y hy
        have ey : ys.getD i 0 = y := by rw [List.getD_eq_getElem?_getD, hy]; rfl
        show EV _ _ _ μ' (Is (.tup [.int (ys.getD i 0), itup ((aget wy (ys.getD i 0)).getD [])]) μ')
        rw [ey, hv]
        exact ev_tup (av_cons (ev_var 4 rfl) (av_cons (ev_dget (p := wd) (kvs := wayK wy) (y := Sum.inl y) (u1 hr) (ev_var 2 rfl) (ev_var 4 rfl) (hsub wd _ Mem.put_same) (by rw [look_way, hv]; rfl) ⟨rfl, rfl⟩) av_nil)) (by simp) ⟨rfl, rfl⟩
      · refine ⟨ys.map fun y => (y, (aget wy y).getD []), perm_look hnd hys, ?_⟩
        rw [List.map_map]
        congr 1
        exact kept_map _ _ ys (fun y => .tup [.int y, itup ((aget wy y).getD [])]) (by simp) fun i d y hd hy => by
          have ey : ys.getD i 0 = y := by rw [List.getD_eq_getElem?_getD, hy]; rfl
          rw [ey]
    · subst e1 e2
      exact av_nil0 (cd_tuple (.inr .l) ⟨μ, sub_put nwd, hk ways hp⟩)
theorem ok_strike (F : FunD K "strike" "strike" (defArgs sStrike) (defBody sStrike) (defScope sStrike) [] [] f fd) (B : Bt mg) (cF : Cal P w K mg base "flow" 2 pdFlow) (cP : Cal P w K mg base "is_possible" 2 pdPoss) (cC : Cal P w K mg base "carry" 2 pdCarry) (cS : Cal P w K mg base "shown" 1 pdShown)
    (cW : Cal P w K mg base "way_of" 1 pdWayOf) : FnOk P w K mg base CX0 3 f fd ["book", "history", "recall"] (dsp K pdStrike) := by
  refine fn_dl F sc_strike (fun ds μ k h => by obtain ⟨b, hs, rec, s, ps, rfl, _⟩ := h; rfl) fun cdv A outer s H E hr ds μ k h => ?_
  obtain ⟨b, hs, rec, sf, ps, rfl, BO, gd, PO, hl, hrec, hk⟩ := h
  have nd := sc_strike.nd
  have hn6 := BO.n6
  have INV := strike_inv BO PO gd hrec
  refine sv_cons (s1_set 3 nd (ev_dnewT fun hd nhd => ?_))
  refine sv_cons (s1_set 4 nd (ev_lst av_nil (by simp) (.inr fun sp nsp => ?_)))
  refine sv_cons (s1_set 5 nd (ev_lst av_nil (by simp) (.inr fun kp nkp => ?_)))
  refine sv_cons (s1_set 6 nd (ev_lst av_nil (by simp) (.inr fun tp ntp => ?_)))
  obtain ⟨n1, n1'⟩ := ne_new nsp
  obtain ⟨n2, n2'⟩ := ne_new nkp
  obtain ⟨n3, n3'⟩ := ne_new n2'
  obtain ⟨n4, n4'⟩ := ne_new ntp
  obtain ⟨n5, n5'⟩ := ne_new n4'
  obtain ⟨n6, n6'⟩ := ne_new n5'
  have N4 : Ne4 hd sp kp tp := ⟨n1, n3, n6, n2, n5, n4⟩
  refine sv_cons (s1_forR (n := hs.length) 7 PassesOwn.never rfl nd (iv_range B.range (ev_callB (av_cons (ev_var 1 rfl) av_nil) (cd_len (.inl rfl) ⟨by simp, rfl⟩) B.len PySem.boot_len) (by omega) (by omega))
    (fun i δ' μ' => ∃ (z1 z2 z3 : Option D), δ' = [some (bkD b), some (hsD hs), some (itup rec), some (.ref hd), some (.ref sp), some (.ref kp), some (.ref tp), z1, z2, z3] ∧
      (srun b hs rec i).stands.length ≤ i ∧ (srun b hs rec i).struck.length ≤ i ∧ (srun b hs rec i).sent.length ≤ i ∧ (∀ j ∈ (srun b hs rec i).stands, j < i) ∧
      μ' = M4 μ hd sp kp tp (.dT (heldK (srun b hs rec i).held)) (.lst (natsD (srun b hs rec i).stands)) (.lst (natsD (srun b hs rec i).struck)) (.lst ((srun b hs rec i).sent.map .int)))
    ⟨none, none, none, rfl, Nat.le_refl _, Nat.le_refl _, Nat.le_refl _, fun j hj => (by cases hj), rfl⟩ (fun i δ' μ' hi hI => ?_) (fun δ' μ' hI => ?_))
  · obtain ⟨z1, z2, z3, rfl, l1, l2, l3, l4, rfl⟩ := hI
    have hin : i < hs.length := by omega
    obtain ⟨si, gi, I⟩ := INV i (by omega)
    have he := ev_at hin
    obtain ⟨s', g', _, q⟩ := gd.at i (by omega)
    have es := gi.uniq g'
    subst es
    obtain ⟨Fi, new, gn⟩ := q _ he
    have so := gi.sok BO
    have R := Fi.row BO so
    have hat : atI (hs.map evD) (i : Int) = some (evD (evAt hs i)) := atI_nat (by rw [List.getElem?_map, he]; rfl)
    rw [srun_succ]
    unfold Mh.sstep
    generalize hev : evAt hs i = e at he hat Fi R ⊢
    generalize srun b hs rec i = sr at l1 l2 l3 l4 I ⊢
    refine sv_cons (s1_set 8 nd ((ev_ix (ev_var 1 rfl) (ev_var 7 rfl) (rd_ixT rfl hat ⟨rfl, rfl⟩)).is ?_))
    refine sv_cons (s1_set 9 nd (ev_callC cF (hr.mono (by omega)) ((av_cons (ev_var 0 rfl) (av_cons (ev_var 1 rfl) (av_cons (ev_var 7 rfl) av_nil))).is ⟨b, hs, i, e, rfl, he, Mw.Fits.flowOk Fi, by omega, ?_⟩)))
    refine sv_cons (s1_ifB (c1 := rec.contains (i : Int)) (tv_cmp (ev_var 7 rfl) (ev_var 2 rfl) (rd_in (.inl rfl) ⟨rfl, rfl⟩) ⟨rfl, rfl⟩) (fun hc => ?_) (fun hc => sv_nil ?_))
    · rw [if_pos hc]
      exact sv_one (s1_cont ⟨_, _, _, rfl, by omega, by omega, by omega, fun j hj => by have := l4 j hj; omega, rfl⟩)
    · rw [if_neg (by rw [hc]; exact Bool.false_ne_true)]
      refine sv_cons (s1_ifB (c1 := landBad sr.sent e || !possible sr.held (flow b hs e)) (tv_or2 (c1 := landBad sr.sent e) (c2 := !possible sr.held (flow b hs e)) ?_ fun _ => ?_) (fun hc => ?_) (fun hc => sv_nil ?_))
      · cases e with
        | land p t => exact tv_and2 (c1 := true) (c2 := !sr.sent.contains t) (tv_cmp (ev_ix (ev_var 8 rfl) ev_int (rd_ixT rfl rfl ⟨rfl, rfl⟩)) ev_str (rd_eqS ⟨rfl, rfl⟩) ⟨rfl, rfl⟩) fun _ => tv_cmp (ev_ix (ev_var 8 rfl) ev_int (rd_ixT rfl rfl ⟨rfl, rfl⟩)) (ev_var 6 rfl) (rd_notIn (.inr (.m (M4.g4 N4))) ⟨rfl, rfl⟩) ⟨rfl, rfl⟩
        | make p m g => exact tv_and2 (c1 := false) (c2 := false) (tv_cmp (ev_ix (ev_var 8 rfl) ev_int (rd_ixT rfl rfl ⟨rfl, rfl⟩)) ev_str (rd_eqS ⟨rfl, rfl⟩) ⟨by decide, rfl⟩) fun h => by cases h
        | hand p m g => exact tv_and2 (c1 := false) (c2 := false) (tv_cmp (ev_ix (ev_var 8 rfl) ev_int (rd_ixT rfl rfl ⟨rfl, rfl⟩)) ev_str (rd_eqS ⟨rfl, rfl⟩) ⟨by decide, rfl⟩) fun h => by cases h
        | send p m g => exact tv_and2 (c1 := false) (c2 := false) (tv_cmp (ev_ix (ev_var 8 rfl) ev_int (rd_ixT rfl rfl ⟨rfl, rfl⟩)) ev_str (rd_eqS ⟨rfl, rfl⟩) ⟨by decide, rfl⟩) fun h => by cases h
        | forge p g => exact tv_and2 (c1 := false) (c2 := false) (tv_cmp (ev_ix (ev_var 8 rfl) ev_int (rd_ixT rfl rfl ⟨rfl, rfl⟩)) ev_str (rd_eqS ⟨rfl, rfl⟩) ⟨by decide, rfl⟩) fun h => by cases h
      · exact tv_not2 (tv_val (ev_callC cP (hr.mono (by omega)) ((av_cons (ev_var 3 rfl) (av_cons (ev_var 9 rfl) av_nil)).is ⟨hd, sr.held, _, b.n, rfl, M4.g1 N4, by omega, fun p hp => ⟨(R.tp p hp).2, hget_ok I.ok p⟩, ⟨rfl, rfl⟩⟩)))
      · -- struck
        have hst : ¬ standsAt b hs sr.held sr.sent e = true := fun z => by
          rw [stands_bad] at z
          rw [hc] at z
          cases z
        rw [if_neg hst]
        refine sv_cons (s1_expr (ev_app (p := kp) (ev_var 5 rfl) (ev_var 7 rfl) (M4.g3 N4) (M4.g3 N4) (by unfold natsD; rw [List.length_map]; omega) ?_))
        rw [M4.p3 N4]
        refine sv_one (s1_cont ⟨_, _, _, rfl, by show sr.stands.length ≤ _; omega, by show (sr.struck ++ [i]).length ≤ _; rw [List.length_append, List.length_singleton]; omega, by show sr.sent.length ≤ _; omega, fun j hj => by have := l4 j hj; omega, ?_⟩)
        show M4 _ _ _ _ _ _ _ (.lst (natsD sr.struck ++ [.int (i : Nat)])) _ = M4 _ _ _ _ _ _ _ (.lst (natsD (sr.struck ++ [i]))) _
        unfold natsD
        rw [List.map_append]
        rfl
      · have hst : standsAt b hs sr.held sr.sent e = true := by
          rw [stands_bad, hc]; rfl
        rw [if_pos hst]
        refine sv_cons (s1_expr (ev_callC cC (hr.mono (by omega)) ((av_cons (ev_var 3 rfl) (av_cons (ev_var 9 rfl) av_nil)).is ⟨hd, sr.held, _, b.n, rfl, M4.g1 N4, by omega, by have := Mw.SOk.held_len I.ok; simp only at this; omega, fun x hx => (I.ok.hv x hx).1.len, fun p _ => R.tl, fun p hp => (R.gv p hp).1.len, ?_⟩)))
        rw [M4.p1 N4]
        refine sv_cons (s1_expr (ev_app (p := sp) (ev_var 4 rfl) (ev_var 7 rfl) (M4.g2 N4) (M4.g2 N4) (by unfold natsD; rw [List.length_map]; omega) ?_))
        rw [M4.p2 N4]
        have en : natsD sr.stands ++ [.int (i : Nat)] = natsD (sr.stands ++ [i]) := by unfold natsD; rw [List.map_append]; rfl
        rw [en]
        have ll : ∀ j ∈ sr.stands ++ [i], j < i + 1 := fun j hj => by
          rcases List.mem_append.mp hj with h | h
          · have := l4 j h; omega
          · simp at h; omega
        have l1' : (sr.stands ++ [i]).length ≤ i + 1 := by rw [List.length_append, List.length_singleton]; omega
        cases e with
        | send p t g =>
          refine sv_one (s1_ifB (c1 := true) (tv_cmp (ev_ix (ev_var 8 rfl) ev_int (rd_ixT rfl rfl ⟨rfl, rfl⟩)) ev_str (rd_eqS ⟨rfl, rfl⟩) ⟨rfl, rfl⟩) (fun _ => sv_one ?_) fun h => by cases h)
          refine s1_expr (ev_app (p := tp) (ev_var 6 rfl) (ev_ix (ev_var 8 rfl) ev_int (rd_ixT rfl rfl ⟨rfl, rfl⟩)) (M4.g4 N4) (M4.g4 N4) (by rw [List.length_map]; omega) ?_)
          rw [M4.p4 N4]
          refine ⟨_, _, _, rfl, l1', by show sr.struck.length ≤ _; omega, by show (sr.sent ++ [t]).length ≤ _; rw [List.length_append, List.length_singleton]; omega, ll, ?_⟩
          show M4 _ _ _ _ _ _ _ _ (.lst (sr.sent.map .int ++ [.int t])) = M4 _ _ _ _ _ _ _ _ (.lst ((sr.sent ++ [t]).map .int))
          rw [List.map_append]
          rfl
        | land p t => exact sv_one (s1_ifB (c1 := false) (tv_cmp (ev_ix (ev_var 8 rfl) ev_int (rd_ixT rfl rfl ⟨rfl, rfl⟩)) ev_str (rd_eqS ⟨rfl, rfl⟩) ⟨by decide, rfl⟩) (fun h => by cases h) fun _ => sv_nil ⟨_, _, _, rfl, l1', by show sr.struck.length ≤ _; omega, by show sr.sent.length ≤ _; omega, ll, rfl⟩)
        | make p m g => exact sv_one (s1_ifB (c1 := false) (tv_cmp (ev_ix (ev_var 8 rfl) ev_int (rd_ixT rfl rfl ⟨rfl, rfl⟩)) ev_str (rd_eqS ⟨rfl, rfl⟩) ⟨by decide, rfl⟩) (fun h => by cases h) fun _ => sv_nil ⟨_, _, _, rfl, l1', by show sr.struck.length ≤ _; omega, by show sr.sent.length ≤ _; omega, ll, rfl⟩)
        | hand p m g => exact sv_one (s1_ifB (c1 := false) (tv_cmp (ev_ix (ev_var 8 rfl) ev_int (rd_ixT rfl rfl ⟨rfl, rfl⟩)) ev_str (rd_eqS ⟨rfl, rfl⟩) ⟨by decide, rfl⟩) (fun h => by cases h) fun _ => sv_nil ⟨_, _, _, rfl, l1', by show sr.struck.length ≤ _; omega, by show sr.sent.length ≤ _; omega, ll, rfl⟩)
        | forge p g => exact sv_one (s1_ifB (c1 := false) (tv_cmp (ev_ix (ev_var 8 rfl) ev_int (rd_ixT rfl rfl ⟨rfl, rfl⟩)) ev_str (rd_eqS ⟨rfl, rfl⟩) ⟨by decide, rfl⟩) (fun h => by cases h) fun _ => sv_nil ⟨_, _, _, rfl, l1', by show sr.struck.length ≤ _; omega, by show sr.sent.length ≤ _; omega, ll, rfl⟩)
  · obtain ⟨z1, z2, z3, rfl, l1, l2, l3, l4, rfl⟩ := hI
    rw [Int.toNat_natCast] at *
    obtain ⟨si, gi, I⟩ := INV hs.length (Nat.le_refl _)
    have hk' : ∀ (st : D) rows ways, rows.Perm ((srun b hs rec hs.length).held.filter fun e => nz e.2) → ways.Perm (((srun b hs rec hs.length).stands.map (evAt hs)).foldl wayStep []) → k (.tup [st, showD rows, waysD ways]) μ := fun st rows ways h1 h2 => hk st rows ways ⟨h1, h2⟩
    generalize srun b hs rec hs.length = sr at l1 l2 l3 l4 I hk' ⊢
    refine sv_one (s1_ret (ev_drop (ev_tup0 (av_cons0 (ev_callT0 (T := "tuple") (av_cons0 ((ev_var 5 rfl).is (av_nil0 (cd_tuple (.inr (.m (M4.g3 N4))) ?_)))) B.tuple (by decide +kernel))))))
    refine av_cons0 (ev_callC cS (hr.mono (by omega)) ((av_cons (ev_var 3 rfl) av_nil).is ⟨hd, sr.held, rfl, M4.g1 N4, I.ok.hn, fun e he => (I.ok.hv e he).2, fun rows hrows => ?_⟩))
    refine av_cons0 (ev_callC cW (hr.mono (by omega)) ((av_cons (ev_var 1 rfl) (av_cons (ev_var 4 rfl) av_nil)).is ⟨hs, sp, sr.stands, rfl, M4.g2 N4, l4, I.runs, I.ok.wn, by omega, fun ways hways => ?_⟩))
    refine av_nil0 ⟨by simp, μ, ?_, hk' _ rows ways hrows hways⟩
    unfold M4
    refine (sub_put nhd).trans ((sub_put ?_).trans ((sub_put ?_).trans (sub_put ?_)))
    · rw [Mem.put_ne (Ne.symm n1)]; exact n1'
    · rw [Mem.put_ne (Ne.symm n2), Mem.put_ne (Ne.symm n3)]; exact n3'
    · rw [Mem.put_ne (Ne.symm n4), Mem.put_ne (Ne.symm n5), Mem.put_ne (Ne.symm n6)]; exact n6'
end
end Mw
set_option Elab.async false
set_option linter.all false
set_option maxRecDepth 100000
set_option maxHeartbeats 4000000
namespace Mw
open PySem PySem.Spec PyProof.Rows L2 DL Mh
/-! ### is_number, is_row, is_system, check_system -/
abbrev sNum : Stmt := top 21
theorem sc_num : FnScope ["value", "least", "most"] ["value", "least", "most"] (defScope sNum) := ⟨rfl, rfl, rfl, by decide +kernel, rfl, by decide +kernel, by decide +kernel⟩
def pdNum : PD := fun ds μ k => ∃ v a b : Int, ds = [.int v, .int a, .int b] ∧ a ≤ v ∧ v ≤ b ∧ k (.bl true) μ
abbrev sRow : Stmt := top 22
theorem sc_row : FnScope ["value", "width", "entry"] ["value", "width"] (defScope sRow) := ⟨rfl, rfl, rfl, by decide +kernel, rfl, by decide +kernel, by decide +kernel⟩
def RowIn (xs : IL) : Prop := ∀ x ∈ xs, -1000000 ≤ x ∧ x ≤ 1000000
def pdRow (P1 : Addr) : PD := fun ds μ k => ∃ (xs : IL) (n : Nat), ds = [itup xs, .int (n : Nat)] ∧ xs.length = n ∧ RowIn xs ∧ μ P1 = some .tab ∧ k (.bl true) μ
abbrev sSys : Stmt := top 23
theorem sc_sys : FnScope ["width", "system", "rows", "bounds", "row"] ["width", "system"] (defScope sSys) := ⟨rfl, rfl, rfl, by decide +kernel, rfl, by decide +kernel, by decide +kernel⟩
def sysD (rows : List IL) (bds : IL) : D := .tup [.tup (rows.map itup), itup bds]
structure SysOk (n : Nat) (rows : List IL) (bds : IL) : Prop where
  n1 : 1 ≤ n
  n20 : n ≤ 20
  r20 : rows.length ≤ 20
  bl : bds.length = rows.length
  rl : ∀ r ∈ rows, r.length = n
  rin : ∀ r ∈ rows, RowIn r
  bin : RowIn bds
def pdSys (P1 P2 : Addr) : PD := fun ds μ k => ∃ (n : Nat) (rows : List IL) (bds : IL), ds = [.int (n : Nat), sysD rows bds] ∧ SysOk n rows bds ∧ μ P1 = some .tab ∧ μ P2 = some .tab ∧ k (.bl true) μ
abbrev sCheck : Stmt := top 24
theorem sc_check : FnScope ["width", "system"] ["width", "system"] (defScope sCheck) := ⟨rfl, rfl, rfl, by decide +kernel, rfl, by decide +kernel, by decide +kernel⟩
def pdCheck (P1 P2 : Addr) : PD := fun ds μ k => ∃ (n : Nat) (rows : List IL) (bds : IL), ds = [.int (n : Nat), sysD rows bds] ∧ SysOk n rows bds ∧ μ P1 = some .tab ∧ μ P2 = some .tab ∧ k .non μ
abbrev sCommon : Stmt := top 25
theorem sc_common : FnScope ["numbers", "found", "number", "other"] ["numbers"] (defScope sCommon) := ⟨rfl, rfl, rfl, by decide +kernel, rfl, by decide +kernel, by decide +kernel⟩
def pdCommon : PD := fun ds μ k => ∃ xs : IL, ds = [itup xs] ∧ (∀ x ∈ xs, -(2 ^ 30) < x ∧ x < 2 ^ 30) ∧ ∀ f : Int, 0 < f → f < 2 ^ 30 → (∀ x ∈ xs, f ∣ x) → k (.int f) μ
abbrev sRed : Stmt := top 26
theorem sc_red : FnScope ["numbers", "factor", "number"] ["numbers"] (defScope sRed) := ⟨rfl, rfl, rfl, by decide +kernel, rfl, by decide +kernel, by decide +kernel⟩
def pdRed : PD := fun ds μ k => ∃ xs : IL, ds = [itup xs] ∧ xs.length ≤ 100 ∧ (∀ x ∈ xs, -(2 ^ 30) < x ∧ x < 2 ^ 30) ∧ ∀ f : Int, 0 < f → (∀ x ∈ xs, f ∣ x) → k (itup (xs.map fun x => x / f)) μ
section
variable {X : Cx} {δ : DS} {μ : Mem} {a b c : Expr} {pos : Pos} {c1 c2 c3 : Bool}
theorem tv_or3 (ha : TV X a δ μ (IsB c1 μ)) (hb : c1 = false → TV X b δ μ (IsB c2 μ)) (hc : c1 = false → c2 = false → TV X c δ μ (IsB c3 μ)) : TV X (.BoolOp .Or [a, b, c] pos) δ μ (IsB (c1 || c2 || c3) μ) :=
  tv_w (wv_or (ha.mono fun d μ1 ⟨e1, e2⟩ => by
    subst e1 e2
    refine ⟨fun h => wv_or ((hb h).mono fun d μ2 ⟨e3, e4⟩ => ?_), fun h => ⟨by rw [h]; rfl, rfl⟩⟩
    subst e3 e4
    refine ⟨fun h2 => wv_or1 ((hc h h2).mono fun d μ2 ⟨e3, e4⟩ => ⟨by rw [e3, h, h2]; rfl, e4⟩), fun h2 => ⟨by rw [h, h2]; rfl, rfl⟩⟩))
theorem ev_and3 (ha : EV X a δ μ (Is (.bl true) μ)) (hb : EV X b δ μ (Is (.bl true) μ)) (hc : EV X c δ μ (Is (.bl true) μ)) : EV X (.BoolOp .And [a, b, c] pos) δ μ (Is (.bl true) μ) :=
  ev_and (ha.mono fun d μ1 ⟨e1, e2⟩ => by
    subst e1 e2
    refine ⟨true, rfl, fun _ => ev_and (hb.mono fun d μ1 ⟨e1, e2⟩ => ?_), nofun⟩
    subst e1 e2
    exact ⟨true, rfl, fun _ => ev_one hc, nofun⟩)
theorem ev_isInst {x : D} {t T : String} {r : Bool} {nt : Str} {p1 p2 : Pos} (hm : X.mg "isinstance" = none) (hT : X.mg nt = none) (hv : bootBuiltins nt = some (.type T)) (ha : EV X a δ μ (Is x μ)) (ht : ∀ H v, Rep X.K μ H v x → TyX X.K H v (.type t)) (hb : kitB t T = some r)
    (hg : Gl X "isinstance" := by rfl) (hg2 : Gl X nt := by rfl) (hn : nt ≠ "__name__" := by decide) (hdb : (nt == ("__debug__" : Str)) = false := by decide)
    (he : starEach [a, .Name nt p2] X.env = (false, eval a X.env) :: starEach [.Name nt p2] X.env := by rfl) (he2 : starEach [.Name nt p2] X.env = (false, eval (.Name nt p2) X.env) :: starEach [] X.env := by rfl) (hpl : (backTo pos (starEach [.Name nt p2] X.env)).any (·.1) = false := by rfl) :
    EV X (.Call (.Name "isinstance" p1) [a, .Name nt p2] [] pos) δ μ (Is (.bl r) μ) :=
  ev_callB (id := "isinstance") (av_cons ha (av_cons (ev_ty hT hv hg2 hn hdb) av_nil he2) he) (cd_isi ht hb ⟨rfl, rfl⟩) hm (by decide +kernel) hg (by decide) (by decide) he hpl
end
theorem bt_int : bootBuiltins "int" = some (.type "int") := by decide +kernel
theorem bt_bool : bootBuiltins "bool" = some (.type "bool") := by decide +kernel
theorem bt_tuple : bootBuiltins "tuple" = some (.type "tuple") := by decide +kernel
theorem kit_ii : kitB "int" "int" = some true := by decide +kernel
theorem kit_ib : kitB "int" "bool" = some false := by decide +kernel
theorem kit_tt : kitB "tuple" "tuple" = some true := by decide +kernel
section
variable {P : Program} {w : World} {K : PySem.W.Frag} {mg : Str → Option Value} {base : Heap} {f : Addr} {fd : FuncData}
theorem ok_num (F : FunD K "is_number" "is_number" (defArgs sNum) (defBody sNum) (defScope sNum) [] [] f fd) (B : Bt mg) : FnOk P w K mg base CX0 1 f fd ["value", "least", "most"] (dsp K pdNum) := by
  refine fn_dl F sc_num (fun ds μ k h => by obtain ⟨a, b, c, rfl, _⟩ := h; rfl) fun cdv A outer s H E hr ds μ k h => ?_
  obtain ⟨v, a, b, rfl, h1, h2, hk⟩ := h
  refine sv_one (s1_ret ((ev_and3 (ev_isInst B.isi B.int bt_int (ev_var 0 rfl) (fun H v r => tyx_int H v r) kit_ii) (ev_not2 (c1 := false) (ev_isInst B.isi B.bool bt_bool (ev_var 0 rfl) (fun H v r => tyx_int H v r) kit_ib)) ?_).is hk))
  refine ev_chain (b1 := true) (ev_var 1 rfl) (ev_var 0 rfl) (rd_le ⟨by rw [decide_eq_true h1], rfl⟩) nofun (fun _ => ev_var 2 rfl) fun _ => rd_le ⟨by rw [decide_eq_true h2], rfl⟩
theorem ok_row {c P1 : Addr} (F : FunD K "is_row" "is_row" (defArgs sRow) (defBody sRow) (defScope sRow) [] [] f fd) (hc : fd.code = .ref c) (TB : GxR.TabB base mg c P1) (B : Bt mg) (hM : ∃ t, mg "MAX_ENTRY" = some (.int 1000000 t)) (cN : Cal P w K mg base "is_number" 1 pdNum) : FnOk P w K mg base CX0 3 f fd ["value", "width"] (dsp K (pdRow P1)) := by
  refine fn_dlC F hc sc_row (fun ds μ k h => by obtain ⟨a, b, rfl, _⟩ := h; rfl) fun A outer s H E hr ds μ k h => ?_
  obtain ⟨xs, n, rfl, h1, h2, hP, hk⟩ := h
  obtain ⟨t, hM⟩ := hM
  refine sv_cons (s1_ifB (c1 := false) (tv_or2 (c1 := false) (c2 := false) (tv_not2 (c1 := true) (tv_val (ev_isInst B.isi B.tuple bt_tuple (ev_var 0 rfl) (fun H v r => tyx_tup r) kit_tt))) fun _ => tv_cmp (ev_callB (av_cons (ev_var 0 rfl) av_nil) (cd_len (.inl rfl) ⟨rfl, rfl⟩) B.len PySem.boot_len) (ev_var 1 rfl) (rd_ne ⟨rfl, rfl⟩) ⟨by simp [h1], rfl⟩) (fun h => by cases h) fun _ => sv_nil ?_)
  refine sv_one (s1_ret (ev_allG (own := [("entry", 2)]) (lv := 1) 2 hr TB hP (iv_tup (ev_var 0 rfl)) trivial (fun i d A' s' H' C cl code fp pn hd hrm => ?_) hk B.all (by decide +kernel) sc_row rfl))
  rw [List.getElem?_map] at hd
  obtain ⟨x, hx, rfl⟩ : ∃ x, xs[i]? = some x ∧ D.int x = d := by
    cases q : xs[i]? with
    | none => rw [q] at hd; cases hd
    | some e => rw [q] at hd; exact ⟨e, rfl, Option.some.inj hd⟩
  obtain ⟨g1, g2⟩ := h2 x (List.mem_of_getElem? hx)
  exact ev_callC cN hrm ((av_cons (ev_var 2 rfl) (av_cons (ev_un (ev_globI hM) (ud_neg ⟨rfl, rfl⟩)) (av_cons (ev_globI hM) av_nil))).is ⟨x, _, _, rfl, g1, g2, ⟨rfl, rfl⟩⟩)
theorem ok_sys {c P1 P2 : Addr} (F : FunD K "is_system" "is_system" (defArgs sSys) (defBody sSys) (defScope sSys) [] [] f fd) (hc : fd.code = .ref c) (TB : GxR.TabB base mg c P2) (B : Bt mg) (hM : ∃ t, mg "MOST_ROWS" = some (.int 20 t)) (cN : Cal P w K mg base "is_number" 1 pdNum) (cR : Cal P w K mg base "is_row" 3 (pdRow P1)) : FnOk P w K mg base CX0 5 f fd ["width", "system"] (dsp K (pdSys P1 P2)) := by
  refine fn_dlC F hc sc_sys (fun ds μ k h => by obtain ⟨a, b, c, rfl, _⟩ := h; rfl) fun A outer s H E hr ds μ k h => ?_
  obtain ⟨n, rows, bds, rfl, ok, hP1, hP2, hk⟩ := h
  obtain ⟨t, hM⟩ := hM
  have nd := sc_sys.nd
  have n1 := ok.n1
  have n20 := ok.n20
  have r20 := ok.r20
  refine sv_cons (s1_ifB (c1 := false) (tv_or3 (c1 := false) (c2 := false) (c3 := false) (tv_not2 (c1 := true) (tv_val (ev_callC cN (hr.mono (by omega)) ((av_cons (ev_var 0 rfl) (av_cons ev_int (av_cons ev_int av_nil))).is ⟨_, _, _, rfl, by omega, by omega, ⟨rfl, rfl⟩⟩))))
    (fun _ => tv_not2 (c1 := true) (tv_val (ev_isInst B.isi B.tuple bt_tuple (ev_var 1 rfl) (fun H v r => tyx_tup r) kit_tt))) (fun _ _ => tv_cmp (ev_callB (av_cons (ev_var 1 rfl) av_nil) (cd_len (.inl rfl) ⟨rfl, rfl⟩) B.len PySem.boot_len) ev_int (rd_ne ⟨rfl, rfl⟩) ⟨rfl, rfl⟩)) (fun h => by cases h) fun _ => sv_nil ?_)
  refine sv_cons (s1_asg ((ev_var 1 rfl).is (gv_tup rfl (gvs_cons (gv_name 2 nd (gvs_cons (gv_name 3 nd (gvs_nil ?_))))))))
  refine sv_cons (s1_ifB (c1 := false) (tv_or3 (c1 := false) (c2 := false) (c3 := false) (tv_not2 (c1 := true) (tv_val (ev_isInst B.isi B.tuple bt_tuple (ev_var 2 rfl) (fun H v r => tyx_tup r) kit_tt)))
    (fun _ => tv_cmp (ev_callB (av_cons (ev_var 2 rfl) av_nil) (cd_len (.inl rfl) ⟨rfl, rfl⟩) B.len PySem.boot_len) (ev_globI hM) (rd_gt ⟨rfl, rfl⟩) ⟨by rw [List.length_map]; exact decide_eq_false (by omega), rfl⟩)
    (fun _ _ => tv_not2 (c1 := true) (tv_val (ev_callC cR (hr.mono (by omega)) ((av_cons (ev_var 3 rfl) (av_cons (ev_callB (av_cons (ev_var 2 rfl) av_nil) (cd_len (.inl rfl) ⟨rfl, rfl⟩) B.len PySem.boot_len) av_nil)).is ⟨bds, _, rfl, by rw [List.length_map]; exact ok.bl, ok.bin, hP1, ⟨rfl, rfl⟩⟩))))) (fun h => by cases h) fun _ => sv_nil ?_)
  refine sv_one (s1_ret (ev_allG (own := [("row", 4)]) (lv := 3) 4 hr TB hP2 (iv_tup (ev_var 2 rfl)) trivial (fun i d A' s' H' C cl code fp pn hd hrm => ?_) hk B.all (by decide +kernel) sc_sys rfl))
  rw [List.getElem?_map] at hd
  obtain ⟨x, hx, rfl⟩ : ∃ x, rows[i]? = some x ∧ itup x = d := by
    cases q : rows[i]? with
    | none => rw [q] at hd; cases hd
    | some e => rw [q] at hd; exact ⟨e, rfl, Option.some.inj hd⟩
  have hm := List.mem_of_getElem? hx
  exact ev_callC cR hrm ((av_cons (ev_var 4 rfl) (av_cons (ev_var 0 rfl) av_nil)).is ⟨x, n, rfl, ok.rl x hm, ok.rin x hm, hP1, ⟨rfl, rfl⟩⟩)
theorem ok_check {P1 P2 : Addr} (F : FunD K "check_system" "check_system" (defArgs sCheck) (defBody sCheck) (defScope sCheck) [] [] f fd) (B : Bt mg) (cS : Cal P w K mg base "is_system" 5 (pdSys P1 P2)) : FnOk P w K mg base CX0 6 f fd ["width", "system"] (dsp K (pdCheck P1 P2)) := by
  refine fn_dl F sc_check (fun ds μ k h => by obtain ⟨a, b, c, rfl, _⟩ := h; rfl) fun cdv A outer s H E hr ds μ k h => ?_
  obtain ⟨n, rows, bds, rfl, ok, hP1, hP2, hk⟩ := h
  exact sv_one (s1_ifB (c1 := false) (μ1 := μ) (tv_not2 (c1 := true) (tv_val (ev_callC cS (hr.mono (by omega)) ((av_cons (ev_var 0 rfl) (av_cons (ev_var 1 rfl) av_nil)).is ⟨n, rows, bds, rfl, ok, hP1, hP2, ⟨rfl, rfl⟩⟩)))) (fun h => by cases h) fun _ => sv_nil hk)
end
end Mw
set_option Elab.async false
set_option linter.all false
set_option maxRecDepth 100000
set_option maxHeartbeats 4000000
namespace Mw
open PySem PySem.Spec PyProof.Rows L2 DL Mh
/-- i's absolute value -/
def ab (i : Int) : Int := if i < 0 then -i else i
theorem ab_nn (i : Int) : 0 ≤ ab i := by unfold ab; split <;> omega
theorem dvd_ab {d i : Int} (h : d ∣ ab i) : d ∣ i := by
  unfold ab at h
  split at h
  · exact Int.dvd_neg.mp h
  · exact h
section
variable {P : Program} {w : World} {K : PySem.W.Frag} {mg : Str → Option Value} {base : Heap} {f : Addr} {fd : FuncData}
theorem ok_common (F : FunD K "common" "common" (defArgs sCommon) (defBody sCommon) (defScope sCommon) [] [] f fd) (B : Bt mg) : FnOk P w K mg base CX0 1 f fd ["numbers"] (dsp K pdCommon) := by
  refine fn_dl F sc_common (fun ds μ k h => by obtain ⟨a, rfl, _⟩ := h; rfl) fun cdv A outer s H E hr ds μ k h => ?_
  obtain ⟨xs, rfl, hz, hk⟩ := h
  have nd := sc_common.nd
  refine sv_cons (s1_set 1 nd (ev_int.is ?_))
  refine sv_cons (s1_for PassesOwn.never rfl (iv_tup (ev_var 0 rfl)) (fun i δ' μ' => μ' = μ ∧ ∃ (g : Int) (z1 z2 : Option D), δ' = [some (itup xs), some (.int g), z1, z2] ∧ 0 ≤ g ∧ g < 2 ^ 30 ∧ ∀ j x, j < i → xs[j]? = some x → g ∣ x)
    ⟨rfl, 0, none, none, rfl, by omega, by omega, fun j x hj => by omega⟩ (fun _ _ _ _ => trivial) (fun i d δ' μ' hd hI => ?_) (fun δ' μ' hI => ?_))
  · obtain ⟨rfl, g, z1, z2, rfl, g0, g1, hdv⟩ := hI
    rw [List.getElem?_map] at hd
    obtain ⟨x, hx, rfl⟩ : ∃ x, xs[i]? = some x ∧ D.int x = d := by
      cases q : xs[i]? with
      | none => rw [q] at hd; cases hd
      | some e => rw [q] at hd; exact ⟨e, rfl, Option.some.inj hd⟩
    obtain ⟨x1, x2⟩ := hz x (List.mem_of_getElem? hx)
    have a0 := ab_nn x
    have a1 : ab x < 2 ^ 30 := by unfold ab; split <;> omega
    refine gv_name 2 nd ?_
    refine sv_cons (s1_set 3 nd ((ev_callB (id := "abs") (av_cons (ev_var 2 rfl) av_nil) (cd_abs (k := Is (.int (ab x)) μ') ⟨rfl, rfl⟩) B.abs (by decide +kernel)).is ?_))
    refine sv_one (s1_whileR PassesOwn.never (fun m δ2 μ2 => μ2 = μ' ∧ ∃ g' o : Int, δ2 = [some (itup xs), some (.int g'), some (.int x), some (.int o)] ∧ m = o.toNat ∧ 0 ≤ g' ∧ g' < 2 ^ 30 ∧ 0 ≤ o ∧ o < 2 ^ 30 ∧ ∀ e : Int, e ∣ g' → e ∣ o → e ∣ g ∧ e ∣ ab x) (ab x).toNat
      ⟨rfl, g, ab x, rfl, rfl, g0, g1, a0, a1, fun e h1 h2 => ⟨h1, h2⟩⟩ fun m δ2 μ2 hI2 => ?_)
    obtain ⟨rfl, g', o, rfl, rfl, h1, h2, h3, h4, h5⟩ := hI2
    refine tv_cmp (ev_var 3 rfl) ev_int (rd_gt ⟨rfl, rfl⟩) ⟨fun hlt => ?_, fun hlt => ?_⟩
    · have hpos : 0 < o := of_decide_eq_true hlt
      have hm0 := Int.emod_nonneg g' (show o ≠ 0 by omega)
      have hm1 := Int.emod_lt_of_pos g' hpos
      refine sv_one (s1_par 1 3 rfl nd (av_cons (ev_var 3 rfl) (av_cons (ev_bin (ev_var 1 rfl) (ev_var 3 rfl) (rd_mod hpos ⟨rfl, rfl⟩)) av_nil)) ⟨_, ?_, rfl, o, g' % o, rfl, rfl, by omega, by omega, hm0, by omega, fun e e1 e2 => ?_⟩ (by kernel_rfl))
      · omega
      · refine h5 e ?_ e1
        have := Int.mul_ediv_add_emod g' o
        rw [← this]
        exact Int.dvd_add (Int.dvd_trans e1 (Int.dvd_mul_right _ _)) e2
    · have h0 : ¬ 0 < o := of_decide_eq_false hlt
      have eo : o = 0 := by omega
      subst eo
      refine ⟨rfl, g', _, _, rfl, h1, h2, fun j y hj hy => ?_⟩
      obtain ⟨q1, q2⟩ := h5 g' (Int.dvd_refl _) (Int.dvd_zero _)
      by_cases hji : j = i
      · subst hji
        rw [hx] at hy
        cases hy
        exact dvd_ab q2
      · exact Int.dvd_trans q1 (hdv j y (by omega) hy)
  · obtain ⟨rfl, g, z1, z2, rfl, g0, g1, hdv⟩ := hI
    rw [List.length_map] at hdv
    have hall : ∀ x ∈ xs, g ∣ x := fun x hx => by
      obtain ⟨j, hj⟩ := List.mem_iff_getElem?.mp hx
      exact hdv j x (List.getElem?_eq_some_iff.mp hj).1 hj
    refine sv_one (s1_ret (ev_callB (id := "max") (av_cons (ev_var 1 rfl) (av_cons ev_int av_nil)) (cd_max rfl ?_) B.max (by decide +kernel)))
    by_cases h : (1 : Int) > g
    · rw [if_pos h]
      refine hk 1 (by omega) (by omega) fun x hx => Int.one_dvd x
    · rw [if_neg h]
      exact hk g (by omega) g1 hall
theorem ok_red (F : FunD K "reduced" "reduced" (defArgs sRed) (defBody sRed) (defScope sRed) [] [] f fd) (B : Bt mg) (cC : Cal P w K mg base "common" 1 pdCommon) : FnOk P w K mg base CX0 2 f fd ["numbers"] (dsp K pdRed) := by
  refine fn_dl F sc_red (fun ds μ k h => by obtain ⟨a, rfl, _⟩ := h; rfl) fun cdv A outer s H E hr ds μ k h => ?_
  obtain ⟨xs, rfl, hl, hz, hk⟩ := h
  have nd := sc_red.nd
  refine sv_cons (s1_set 1 nd (ev_callC cC (hr.mono (by omega)) ((av_cons (ev_var 0 rfl) av_nil).is ⟨xs, rfl, hz, fun g g0 g1 gd => ?_⟩)))
  refine sv_one (s1_ret (ev_callT0 (T := "tuple") (av_cons0 ((ev_lcP (own := [("number", 2)]) (k := Is (.lst ((xs.map fun x => x / g).map .int)) μ) 2
    (iv_tup (ev_var 0 rfl)) (by simp; omega) (fun _ _ => true) (fun i _ => .int (at0 xs i / g)) (fun _ _ => trivial)
    (fun i d μ' s H C cl fp hd _ => ts_nil ⟨rfl, rfl⟩) (fun i d μ' s H C cl fp hd _ _ => ?_) (.inl ⟨?_, rfl⟩) sc_red).is (av_nil0 (cd_tuple (.inr .l) (hk g g0 gd))))) B.tuple (by decide +kernel)))
  · rw [List.getElem?_map] at hd
    obtain ⟨x, hx, rfl⟩ : ∃ x, xs[i]? = some x ∧ D.int x = d := by
      cases q : xs[i]? with
      | none => rw [q] at hd; cases hd
      | some e => rw [q] at hd; exact ⟨e, rfl, Option.some.inj hd⟩
    have ex : at0 xs i = x := by unfold at0; rw [List.getD_eq_getElem?_getD, hx]; rfl
    rw [ex]
    exact ev_bin (ev_var 2 rfl) (ev_var 1 rfl) (rd_div ⟨g0, by omega⟩ ⟨rfl, rfl⟩)
  · rw [kept_map _ _ xs (fun x => .int (x / g)) (by simp)]
    · rw [List.map_map]; rfl
    · intro i d x hd hx
      have ex : at0 xs i = x := by unfold at0; rw [List.getD_eq_getElem?_getD, hx]; rfl
      rw [ex]
end
end Mw
set_option Elab.async false
set_option linter.all false
set_option maxRecDepth 100000
set_option maxHeartbeats 4000000
namespace Mw
open PySem PySem.Spec PyProof.Rows L2 DL Mh
open Mx (Tb)
/-! ### the tableau as data -/
def rowL (L : Nat) (f : Nat → Int) : List D := (List.range L).map fun j => .int (f j)
def trows (m n : Nat) (R : Nat → Nat → Int) : List D := (List.range n).map fun i => .lst (rowL (m + n + 1) (R i))
def tbas (n : Nat) (bs : Nat → Nat) : List D := (List.range n).map fun k => .int (bs k : Nat)
def tfs (m n : Nat) (r s : Addr) (z : Nat → Int) (d : Int) : List (Str × D) := [("width", .int (n : Nat)), ("count", .int (m : Nat)), ("rows", .ref r), ("goal", .lst (rowL (m + n + 1) z)), ("basis", .ref s), ("scale", .int d)]
structure TabAt (C : Addr) (m n : Nat) (t : Tb) (a r s : Addr) (μ : Mem) : Prop where
  A : μ a = some (.ins C (tfs m n r s t.z t.d))
  R : μ r = some (.lst (trows m n t.R))
  S : μ s = some (.lst (tbas n t.bs))
  rs : r ≠ s
structure TC (K : PySem.W.Frag) (C : Addr) : Prop where
  cls : Cls K C
  width : NoAttr K C "width"
  count : NoAttr K C "count"
  rows : NoAttr K C "rows"
  goal : NoAttr K C "goal"
  basis : NoAttr K C "basis"
  scale : NoAttr K C "scale"
theorem rl_at {L : Nat} {f : Nat → Int} {j : Nat} (h : j < L) : atI (rowL L f) (j : Int) = some (.int (f j)) := atI_nat (by simp [rowL, h])
theorem rl_len (L : Nat) (f : Nat → Int) : (rowL L f).length = L := by simp [rowL]
theorem rl_last {L : Nat} {f : Nat → Int} : atI (rowL (L + 1) f) (-1) = some (.int (f L)) := by
  unfold atI
  rw [rl_len]
  have e : ixN (L + 1) (-1) = some L := by
    unfold ixN
    rw [if_neg (by omega)]
    rw [if_pos (by omega)]
    congr 1
    omega
  rw [e]
  simp [rowL]
theorem tr_at {m n : Nat} {R : Nat → Nat → Int} {i : Nat} (h : i < n) : atI (trows m n R) (i : Int) = some (.lst (rowL (m + n + 1) (R i))) := atI_nat (by simp [trows, h])
theorem tb_at {n : Nat} {bs : Nat → Nat} {i : Nat} (h : i < n) : atI (tbas n bs) (i : Int) = some (.int (bs i : Nat)) := atI_nat (by simp [tbas, h])
theorem ixN_nat {n i : Nat} (h : i < n) : ixN n (i : Int) = some i := by
  unfold ixN
  rw [if_pos (by omega), if_pos (by omega), Int.toNat_natCast]
abbrev mth (i : Nat) : Stmt := inClass (top 28) i
abbrev sEnt : Stmt := mth 1
theorem sc_ent : FnScope ["self", "j"] ["self"] (defScope sEnt) := ⟨rfl, rfl, rfl, by decide +kernel, rfl, by decide +kernel, by decide +kernel⟩
def pdEnt (C : Addr) : PD := fun ds μ k => ∃ (m n : Nat) (t : Tb) (a r s : Addr), ds = [.ref a] ∧ TabAt C m n t a r s μ ∧ m + n ≤ 1000 ∧ (∀ c, c < m + n → t.z c < 0 → (∀ j, j < c → 0 ≤ t.z j) → k (.int (c : Nat)) μ) ∧ ((∀ j, j < m + n → 0 ≤ t.z j) → k .non μ)
abbrev sTight : Stmt := mth 3
theorem sc_tight : FnScope ["self", "one", "other", "column", "left", "right"] ["self", "one", "other", "column"] (defScope sTight) := ⟨rfl, rfl, rfl, by decide +kernel, rfl, by decide +kernel, by decide +kernel⟩
def pdTight (C : Addr) : PD := fun ds μ k => ∃ (m n : Nat) (t : Tb) (a r s : Addr) (i j c : Nat), ds = [.ref a, .int (i : Nat), .int (j : Nat), .int (c : Nat)] ∧ TabAt C m n t a r s μ ∧ i < n ∧ j < n ∧ c < m + n ∧ t.R i (m + n) = 0 ∧ t.R j (m + n) = 0 ∧ k (.bl (decide (t.bs i < t.bs j))) μ
abbrev sLeav : Stmt := mth 2
theorem sc_leav : FnScope ["self", "column", "best", "i", "entry"] ["self", "column"] (defScope sLeav) := ⟨rfl, rfl, rfl, by decide +kernel, rfl, by decide +kernel, by decide +kernel⟩
def pdLeav (C : Addr) : PD := fun ds μ k => ∃ (m n : Nat) (t : Tb) (a r s : Addr) (c : Nat), ds = [.ref a, .int (c : Nat)] ∧ TabAt C m n t a r s μ ∧ n ≤ 1000 ∧ c < m + n ∧ (∀ i, i < n → t.R i (m + n) = 0) ∧
  (∀ i, i < n → 0 < t.R i c → (∀ j, j < n → 0 < t.R j c → t.bs i ≤ t.bs j) → k (.int (i : Nat)) μ) ∧ ((∀ i, i < n → t.R i c ≤ 0) → k .non μ)
abbrev sClr : Stmt := mth 5
theorem sc_clr : FnScope ["self", "row", "kept", "column", "pivot", "factor", "j"] ["self", "row", "kept", "column", "pivot"] (defScope sClr) := ⟨rfl, rfl, rfl, by decide +kernel, rfl, by decide +kernel, by decide +kernel⟩
def In64 (x : Int) : Prop := -(2 ^ 64) < x ∧ x < 2 ^ 64
def pdClr (C : Addr) : PD := fun ds μ k => ∃ (L : Nat) (f g : Nat → Int) (a : Addr) (fs : List (Str × D)) (c : Nat) (p d : Int), ds = [.ref a, .lst (rowL L f), .lst (rowL L g), .int (c : Nat), .int p] ∧ μ a = some (.ins C fs) ∧ fs.lookup ("scale" : Str) = some (D.int d) ∧ 0 < d ∧ d < 2 ^ 30 ∧ c < L ∧ L ≤ 1000 ∧ In64 p ∧
  (∀ j, j < L → In64 (g j)) ∧ k (.lst (rowL L fun j => (f j * p - f c * g j) / d)) μ
abbrev sPrc : Stmt := mth 8
theorem sc_prc : FnScope ["self"] ["self"] (defScope sPrc) := ⟨rfl, rfl, rfl, by decide +kernel, rfl, by decide +kernel, by decide +kernel⟩
def pdPrc (C : Addr) : PD := fun ds μ k => ∃ (m n : Nat) (t : Tb) (a r s : Addr), ds = [.ref a] ∧ TabAt C m n t a r s μ ∧ k (itup ((List.range n).map fun i => t.z (m + i))) μ
section
variable {P : Program} {w : World} {K : PySem.W.Frag} {mg : Str → Option Value} {base : Heap} {f : Addr} {fd : FuncData} {C : Addr}
theorem ok_ent (F : FunD K "entering" "Tableau.entering" (defArgs sEnt) (defBody sEnt) (defScope sEnt) [] [] f fd) (B : Bt mg) (T : TC K C) : FnOk P w K mg base CX0 1 f fd ["self"] (dsp K (pdEnt C)) := by
  refine fn_dl F sc_ent (fun ds μ k h => by obtain ⟨a, b, c, d, e, g, rfl, _⟩ := h; rfl) fun cdv A outer s0 H E hr ds μ k h => ?_
  obtain ⟨m, n, t, a, r, s, rfl, tab, hz, h1, h2⟩ := h
  have nd := sc_ent.nd
  refine sv_cons (s1_forR (n := ((m + n : Nat) : Int)) 1 PassesOwn.never rfl nd (iv_range B.range (ev_bin (ev_fld T.cls T.count (ev_var 0 rfl) tab.A rfl ⟨rfl, rfl⟩) (ev_fld T.cls T.width (ev_var 0 rfl) tab.A rfl ⟨rfl, rfl⟩) (rd_add ⟨by simp, rfl⟩)) (by omega) (by omega))
    (fun i δ' μ' => μ' = μ ∧ (∃ z, δ' = [some (.ref a), z]) ∧ ∀ j, j < i → 0 ≤ t.z j) ⟨rfl, ⟨none, rfl⟩, fun j hj => by omega⟩ (fun i δ' μ' hi hI => ?_) (fun δ' μ' hI => ?_))
  · obtain ⟨rfl, ⟨z, rfl⟩, hall⟩ := hI
    refine sv_one (s1_ifB (c1 := decide (t.z i < 0)) (tv_cmp (ev_ix (ev_fld T.cls T.goal (ev_var 0 rfl) tab.A rfl ⟨rfl, rfl⟩) (ev_var 1 rfl) (rd_ixL rfl (rl_at (by omega)) ⟨rfl, rfl⟩)) ev_int (rd_lt ⟨rfl, rfl⟩) ⟨rfl, rfl⟩) (fun h => sv_one (s1_ret ((ev_var 1 rfl).is ?_))) (fun h => sv_nil ⟨rfl, ⟨_, rfl⟩, fun j hj => ?_⟩))
    · exact h1 i (by omega) (of_decide_eq_true h) hall
    · have := of_decide_eq_false h
      by_cases e : j = i
      · subst e; omega
      · exact hall j (by omega)
  · obtain ⟨rfl, ⟨z, rfl⟩, hall⟩ := hI
    exact sv_one (s1_ret (ev_non.is (h2 fun j hj => hall j (by omega))))
theorem ok_tight (F : FunD K "is_tighter" "Tableau.is_tighter" (defArgs sTight) (defBody sTight) (defScope sTight) [] [] f fd) (B : Bt mg) (T : TC K C) : FnOk P w K mg base CX0 1 f fd ["self", "one", "other", "column"] (dsp K (pdTight C)) := by
  refine fn_dl F sc_tight (fun ds μ k h => by obtain ⟨a, b, c, d, e, g, i, j, c', rfl, _⟩ := h; rfl) fun cdv A outer s0 H E hr ds μ k h => ?_
  obtain ⟨m, n, t, a, r, s, i, j, c, rfl, tab, hi, hj, hc, z1, z2, hk⟩ := h
  have nd := sc_tight.nd
  refine sv_cons (s1_set 4 nd ((ev_bin (ev_ix (ev_ix (ev_fld T.cls T.rows (ev_var 0 rfl) tab.A rfl ⟨rfl, rfl⟩) (ev_var 1 rfl) (rd_ixM rfl tab.R (tr_at hi) ⟨rfl, rfl⟩)) (ev_un ev_int (ud_neg ⟨rfl, rfl⟩)) (rd_ixL rfl rl_last ⟨rfl, rfl⟩)) (ev_ix (ev_ix (ev_fld T.cls T.rows (ev_var 0 rfl) tab.A rfl ⟨rfl, rfl⟩) (ev_var 2 rfl) (rd_ixM rfl tab.R (tr_at hj) ⟨rfl, rfl⟩)) (ev_var 3 rfl) (rd_ixL rfl (rl_at (by omega)) ⟨rfl, rfl⟩)) (rd_mul (.inl (by rw [z1]; omega)) ⟨rfl, rfl⟩)).is ?_))
  refine sv_cons (s1_set 5 nd ((ev_bin (ev_ix (ev_ix (ev_fld T.cls T.rows (ev_var 0 rfl) tab.A rfl ⟨rfl, rfl⟩) (ev_var 2 rfl) (rd_ixM rfl tab.R (tr_at hj) ⟨rfl, rfl⟩)) (ev_un ev_int (ud_neg ⟨rfl, rfl⟩)) (rd_ixL rfl rl_last ⟨rfl, rfl⟩)) (ev_ix (ev_ix (ev_fld T.cls T.rows (ev_var 0 rfl) tab.A rfl ⟨rfl, rfl⟩) (ev_var 1 rfl) (rd_ixM rfl tab.R (tr_at hi) ⟨rfl, rfl⟩)) (ev_var 3 rfl) (rd_ixL rfl (rl_at (by omega)) ⟨rfl, rfl⟩)) (rd_mul (.inl (by rw [z2]; omega)) ⟨rfl, rfl⟩)).is ?_))
  rw [z1, z2, Int.zero_mul, Int.zero_mul]
  refine sv_one (s1_ret ((ev_or2 (c1 := false) (c2 := decide (t.bs i < t.bs j)) (ev_cmp (ev_var 4 rfl) (ev_var 5 rfl) (rd_lt ⟨rfl, rfl⟩)) fun _ => (ev_and2 (c1 := true) (c2 := decide (t.bs i < t.bs j)) (ev_cmp (ev_var 4 rfl) (ev_var 5 rfl) (rd_eq ⟨rfl, rfl⟩)) fun _ => ?_)).is hk))
  refine ev_cmp (ev_ix (ev_fld T.cls T.basis (ev_var 0 rfl) tab.A rfl ⟨rfl, rfl⟩) (ev_var 1 rfl) (rd_ixM rfl tab.S (tb_at hi) ⟨rfl, rfl⟩)) (ev_ix (ev_fld T.cls T.basis (ev_var 0 rfl) tab.A rfl ⟨rfl, rfl⟩) (ev_var 2 rfl) (rd_ixM rfl tab.S (tb_at hj) ⟨rfl, rfl⟩)) (rd_lt ⟨?_, rfl⟩)
  congr 1
  simp
theorem ok_leav (F : FunD K "leaving" "Tableau.leaving" (defArgs sLeav) (defBody sLeav) (defScope sLeav) [] [] f fd) (B : Bt mg) (T : TC K C) (cT : CalM P w K mg base C "is_tighter" 1 (pdTight C)) : FnOk P w K mg base CX0 2 f fd ["self", "column"] (dsp K (pdLeav C)) := by
  refine fn_dl F sc_leav (fun ds μ k h => by obtain ⟨a, b, c, d, e, g, i, rfl, _⟩ := h; rfl) fun cdv A outer s0 H E hr ds μ k h => ?_
  obtain ⟨m, n, t, a, r, s, c, rfl, tab, hn, hc, hz, h1, h2⟩ := h
  have nd := sc_leav.nd
  refine sv_cons (s1_set 2 nd (ev_non.is ?_))
  refine sv_cons (s1_forR (n := (n : Int)) 3 PassesOwn.never rfl nd (iv_range B.range (ev_fld T.cls T.width (ev_var 0 rfl) tab.A rfl ⟨rfl, rfl⟩) (by omega) (by omega))
    (fun i δ' μ' => μ' = μ ∧ ∃ (b z1 z2 : Option D), δ' = [some (.ref a), some (.int (c : Nat)), b, z1, z2] ∧ ((b = some .non ∧ ∀ j, j < i → t.R j c ≤ 0) ∨ ∃ v : Nat, b = some (.int (v : Nat)) ∧ v < i ∧ v < n ∧ 0 < t.R v c ∧ ∀ j, j < i → 0 < t.R j c → t.bs v ≤ t.bs j))
    ⟨rfl, some .non, none, none, rfl, .inl ⟨rfl, fun j hj => by omega⟩⟩ (fun i δ' μ' hi hI => ?_) (fun δ' μ' hI => ?_))
  · obtain ⟨rfl, b, z1, z2, rfl, hb⟩ := hI
    have hin : i < n := by omega
    refine sv_cons (s1_set 4 nd ((ev_ix (ev_ix (ev_fld T.cls T.rows (ev_var 0 rfl) tab.A rfl ⟨rfl, rfl⟩) (ev_var 3 rfl) (rd_ixM rfl tab.R (tr_at hin) ⟨rfl, rfl⟩)) (ev_var 1 rfl) (rd_ixL rfl (rl_at (by omega)) ⟨rfl, rfl⟩)).is ?_))
    refine sv_one (s1_ifB (c1 := decide (0 < t.R i c)) (tv_cmp (ev_var 4 rfl) ev_int (rd_gt ⟨rfl, rfl⟩) ⟨rfl, rfl⟩) (fun h => ?_) (fun h => sv_nil ⟨rfl, b, _, _, rfl, ?_⟩))
    · have hpos : 0 < t.R i c := of_decide_eq_true h
      rcases hb with ⟨rfl, hall⟩ | ⟨v, rfl, hv, hvn, hvp, hall⟩
      · refine sv_one (s1_ifB (c1 := true) (tv_or2 (c1 := true) (c2 := true) (tv_isN (ev_var 2 rfl) ⟨rfl, rfl⟩) fun h => by cases h) (fun _ => sv_one (s1_set 2 nd ((ev_var 3 rfl).is ⟨rfl, _, _, _, rfl, .inr ⟨i, rfl, by omega, hin, hpos, fun j hj hjp => ?_⟩⟩))) fun h => by cases h)
        by_cases e : j = i
        · subst e; exact Nat.le_refl _
        · have := hall j (by omega); omega
      · refine sv_one (s1_ifB (c1 := decide (t.bs i < t.bs v)) (tv_or2 (c1 := false) (c2 := decide (t.bs i < t.bs v)) (tv_isN (ev_var 2 rfl) ⟨rfl, rfl⟩) fun _ => tv_val (ev_methC cT T.cls (hr.mono (by omega)) (ev_var 0 rfl) tab.A rfl ((av_cons (ev_var 3 rfl) (av_cons (ev_var 2 rfl) (av_cons (ev_var 1 rfl) av_nil))).is ⟨m, n, t, a, r, s, i, v, c, rfl, tab, hin, hvn, hc, hz i hin, hz v hvn, ⟨rfl, rfl⟩⟩)))
          (fun h3 => sv_one (s1_set 2 nd ((ev_var 3 rfl).is ⟨rfl, _, _, _, rfl, .inr ⟨i, rfl, by omega, hin, hpos, fun j hj hjp => ?_⟩⟩))) (fun h3 => sv_nil ⟨rfl, _, _, _, rfl, .inr ⟨v, rfl, by omega, hvn, hvp, fun j hj hjp => ?_⟩⟩))
        · have := of_decide_eq_true h3
          by_cases e : j = i
          · subst e; exact Nat.le_refl _
          · have := hall j (by omega) hjp; omega
        · have := of_decide_eq_false h3
          by_cases e : j = i
          · subst e; omega
          · exact hall j (by omega) hjp
    · have hno : ¬ 0 < t.R i c := of_decide_eq_false h
      rcases hb with ⟨rfl, hall⟩ | ⟨v, rfl, hv, hvn, hvp, hall⟩
      · refine .inl ⟨rfl, fun j hj => ?_⟩
        by_cases e : j = i
        · subst e; omega
        · exact hall j (by omega)
      · refine .inr ⟨v, rfl, by omega, hvn, hvp, fun j hj hjp => ?_⟩
        by_cases e : j = i
        · subst e; exact absurd hjp hno
        · exact hall j (by omega) hjp
  · obtain ⟨rfl, b, z1, z2, rfl, hb⟩ := hI
    rw [Int.toNat_natCast] at hb
    refine sv_one (s1_ret ?_)
    rcases hb with ⟨rfl, hall⟩ | ⟨v, rfl, hv, hvn, hvp, hall⟩
    · exact (ev_var 2 rfl).is (h2 hall)
    · exact (ev_var 2 rfl).is (h1 v hvn hvp hall)
theorem ok_clr (F : FunD K "cleared" "Tableau.cleared" (defArgs sClr) (defBody sClr) (defScope sClr) [] [] f fd) (B : Bt mg) (T : TC K C) : FnOk P w K mg base CX0 1 f fd ["self", "row", "kept", "column", "pivot"] (dsp K (pdClr C)) := by
  refine fn_dl F sc_clr (fun ds μ k h => by obtain ⟨a, b, c, d, e, g, i, j, rfl, _⟩ := h; rfl) fun cdv A outer s0 H E hr ds μ k h => ?_
  obtain ⟨L, fr, g, a, fs, c, p, d, rfl, ha, hs, d0, d1, hc, hL, hp, hg, hk⟩ := h
  have nd := sc_clr.nd
  refine sv_cons (s1_set 5 nd ((ev_ix (ev_var 1 rfl) (ev_var 3 rfl) (rd_ixL rfl (rl_at hc) ⟨rfl, rfl⟩)).is ?_))
  refine sv_one (s1_ret ((ev_lcP (own := [("j", 6)]) (k := Is (.lst (rowL L fun j => (fr j * p - fr c * g j) / d)) μ) 6
    (iv_range B.range (ev_callB (av_cons (ev_var 1 rfl) av_nil) (cd_len (.inr .l) ⟨by rw [rl_len], rfl⟩) B.len PySem.boot_len) (by omega) (by omega)) (by simp; omega) (fun _ _ => true) (fun i _ => .int ((fr i * p - fr c * g i) / d)) (fun _ _ => trivial)
    (fun i d μ' s H C cl fp hd _ => ts_nil ⟨rfl, rfl⟩) (fun i d' μ' s H C cl fp hd hsub _ => ?_) (.inl ⟨?_, rfl⟩) sc_clr).is hk))
  · obtain ⟨hi, rfl⟩ := rg_lt hd
    have hi : i < L := by simpa using hi
    exact ev_bin (ev_bin (ev_bin (ev_ix (ev_var 1 rfl) (ev_var 6 rfl) (rd_ixL rfl (rl_at hi) ⟨rfl, rfl⟩)) (ev_var 4 rfl) (rd_mul (.inr hp) ⟨rfl, rfl⟩)) (ev_bin (ev_var 5 rfl) (ev_ix (ev_var 2 rfl) (ev_var 6 rfl) (rd_ixL rfl (rl_at hi) ⟨rfl, rfl⟩)) (rd_mul (.inr (hg i hi)) ⟨rfl, rfl⟩)) (rd_sub ⟨rfl, rfl⟩)) (ev_fld T.cls T.scale (ev_var 0 rfl) (hsub a _ ha) hs ⟨rfl, rfl⟩) (rd_div ⟨d0, by omega⟩ ⟨rfl, rfl⟩)
  · simp [kept_rg, rowL]
theorem cut_rowL (m n : Nat) (z : Nat → Int) : DL.cutD (rowL (m + n + 1) z) (some (m : Nat)) (some ((m + n : Nat) : Int)) = ((List.range n).map fun i => z (m + i)).map .int := by
  unfold DL.cutD
  rw [rl_len, HT.sIx_nat, HT.sIx_nat, Nat.min_eq_left (by omega), Nat.min_eq_left (by omega)]
  apply List.ext_getElem?
  intro i
  rw [List.getElem?_take]
  by_cases h : i < n
  · rw [if_pos (by omega), List.getElem?_drop]
    have h2 : m + i < m + n + 1 := by omega
    simp [rowL, h, h2]
  · rw [if_neg (by omega)]
    exact (List.getElem?_eq_none (by simp; omega)).symm
theorem ok_prc (F : FunD K "prices" "Tableau.prices" (defArgs sPrc) (defBody sPrc) (defScope sPrc) [] [] f fd) (B : Bt mg) (T : TC K C) : FnOk P w K mg base CX0 1 f fd ["self"] (dsp K (pdPrc C)) := by
  refine fn_dl F sc_prc (fun ds μ k h => by obtain ⟨a, b, c, d, e, g, rfl, _⟩ := h; rfl) fun cdv A outer s0 H E hr ds μ k h => ?_
  obtain ⟨m, n, t, a, r, s, rfl, tab, hk⟩ := h
  refine sv_one (s1_ret (ev_callT0 (T := "tuple") (av_cons0 ((ev_slice (l := some ((m : Nat) : Int)) (u := some ((m + n : Nat) : Int)) (k := Is (.lst (((List.range n).map fun i => t.z (m + i)).map .int)) μ) (ev_fld T.cls T.goal (ev_var 0 rfl) tab.A rfl ⟨rfl, rfl⟩)
    (.some (ev_fld T.cls T.count (ev_var 0 rfl) tab.A rfl ⟨rfl, rfl⟩)) (.some (ev_bin (ev_fld T.cls T.count (ev_var 0 rfl) tab.A rfl ⟨rfl, rfl⟩) (ev_fld T.cls T.width (ev_var 0 rfl) tab.A rfl ⟨rfl, rfl⟩) (rd_add ⟨by simp, rfl⟩))) (sd_lst .l (.inl ⟨by rw [cut_rowL], rfl⟩))).is (av_nil0 (cd_tuple (.inr .l) hk)))) B.tuple bt_tuple))
end
end Mw
set_option Elab.async false
set_option linter.all false
set_option maxRecDepth 100000
set_option maxHeartbeats 4000000
namespace Mw
open PySem PySem.Spec PyProof.Rows L2 DL Mh
open Mx (Tb)
abbrev sWts : Stmt := mth 6
theorem sc_wts : FnScope ["self", "found", "i"] ["self"] (defScope sWts) := ⟨rfl, rfl, rfl, by decide +kernel, rfl, by decide +kernel, by decide +kernel⟩
def pdWts (C : Addr) : PD := fun ds μ k => ∃ (m n : Nat) (t : Tb) (a r s : Addr), ds = [.ref a] ∧ TabAt C m n t a r s μ ∧ m + n ≤ 1000 ∧ (∀ i, i < n → t.R i (m + n) = 0) ∧ (∀ i, i < n → t.bs i < m + n) ∧ k (itup (zero m)) μ
abbrev sRay : Stmt := mth 7
theorem sc_ray : FnScope ["self", "column", "found", "i"] ["self", "column"] (defScope sRay) := ⟨rfl, rfl, rfl, by decide +kernel, rfl, by decide +kernel, by decide +kernel⟩
def In30 (x : Int) : Prop := -(2 ^ 30) < x ∧ x < 2 ^ 30
def pdRay (C : Addr) : PD := fun ds μ k => ∃ (m n : Nat) (t : Tb) (a r s : Addr) (c : Nat), ds = [.ref a, .int (c : Nat)] ∧ TabAt C m n t a r s μ ∧ m + n ≤ 1000 ∧ c < m + n ∧ (∀ i, i < n → In30 (t.R i c)) ∧ In30 t.d ∧ (∀ i, i < n → t.bs i < m + n) ∧ ∀ xs : IL, xs.length = m → (∀ x ∈ xs, In30 x) → k (itup xs) μ
abbrev sTurn : Stmt := mth 4
theorem sc_turn : FnScope ["self", "i", "column", "pivot", "kept", "k"] ["self", "i", "column"] (defScope sTurn) := ⟨rfl, rfl, rfl, by decide +kernel, rfl, by decide +kernel, by decide +kernel⟩
def pdTurn (C : Addr) : PD := fun ds μ k => ∃ (m n : Nat) (t : Tb) (a r s : Addr) (i c : Nat), ds = [.ref a, .int (i : Nat), .int (c : Nat)] ∧ TabAt C m n t a r s μ ∧ m + n < 1000 ∧ i < n ∧ c < m + n ∧ 0 < t.d ∧ t.d < 2 ^ 30 ∧ (∀ j, j < m + n + 1 → In64 (t.R i j)) ∧
  ∀ μ', TabAt C m n (Mx.turn t i c) a r s μ' → (∀ b, b ≠ a → b ≠ r → b ≠ s → μ' b = μ b) → k .non μ'
theorem set_range {α : Type} (n : Nat) (f : Nat → α) (i : Nat) (v : α) : ((List.range n).map f).set i v = (List.range n).map fun k => if k = i then v else f k := by
  apply List.ext_getElem?
  intro j
  by_cases hj : i = j
  · subst hj
    by_cases h : i < n
    · rw [List.getElem?_set_self (by simpa using h)]
      simp [h]
    · rw [List.getElem?_eq_none (by simp; omega), List.getElem?_eq_none (by simp; omega)]
  · rw [List.getElem?_set_ne hj]
    by_cases h : j < n
    · simp [h, Ne.symm hj]
    · rw [List.getElem?_eq_none (by simp; omega), List.getElem?_eq_none (by simp; omega)]
theorem rd_zeros {X : Cx} {K : PySem.W.Frag} {μ : Mem} {k : D → Mem → Prop} {N : Nat} (h1 : N ≤ 1000) (h : NewL μ ((zero N).map .int) k) : RD K (WO X (binaryOp .Mult)) (.lst [.int 0]) (.int (N : Nat)) μ k := by
  refine rd_rep (ds := [.int 0]) (.inl rfl) (by omega) (by omega) (by simp) ?_
  rw [flat_one, Int.toNat_natCast]
  have e : (List.replicate N (D.int 0)) = (zero N).map .int := by simp [zero]
  rw [e]
  exact h
theorem cut_none (xs : IL) (m : Nat) : DL.cutD (xs.map D.int) none (some (m : Nat)) = (xs.take m).map .int := by
  unfold DL.cutD
  have e : HT.sIx (xs.map D.int).length 0 none = 0 := rfl
  rw [HT.sIx_nat, e, List.drop_zero, Nat.sub_zero, ← List.map_take, List.length_map]
  congr 1
  by_cases h : m ≤ xs.length
  · rw [Nat.min_eq_left h]
  · rw [Nat.min_eq_right (by omega), List.take_of_length_le (Nat.le_refl _), List.take_of_length_le (by omega)]
theorem at0_mem {xs : IL} {P : Int → Prop} (h : ∀ x ∈ xs, P x) {i : Nat} {v : Int} (hv : P v) : ∀ x ∈ xs.set i v, P x := fun x hx => by
  rcases List.mem_or_eq_of_mem_set hx with h1 | h1
  · exact h x h1
  · subst h1; exact hv
section
variable {P : Program} {w : World} {K : PySem.W.Frag} {mg : Str → Option Value} {base : Heap} {f : Addr} {fd : FuncData} {C : Addr}
theorem ok_wts (F : FunD K "weights" "Tableau.weights" (defArgs sWts) (defBody sWts) (defScope sWts) [] [] f fd) (B : Bt mg) (T : TC K C) : FnOk P w K mg base CX0 1 f fd ["self"] (dsp K (pdWts C)) := by
  refine fn_dl F sc_wts (fun ds μ k h => by obtain ⟨a, b, c, d, e, g, rfl, _⟩ := h; rfl) fun cdv A outer s0 H E hr ds μ k h => ?_
  obtain ⟨m, n, t, a, r, s, rfl, tab, hz, h1, h2, hk⟩ := h
  have nd := sc_wts.nd
  refine sv_cons (s1_set 1 nd (ev_bin (ev_lst (av_cons ev_int av_nil) (by simp) (.inl ⟨rfl, rfl⟩)) (ev_bin (ev_fld T.cls T.count (ev_var 0 rfl) tab.A rfl ⟨rfl, rfl⟩) (ev_fld T.cls T.width (ev_var 0 rfl) tab.A rfl ⟨rfl, rfl⟩) (rd_add ⟨rfl, rfl⟩)) (rd_zeros (N := m + n) hz (.inr fun p np => ?_))))
  have ne : ∀ {b o}, μ b = some o → b ≠ p := fun {b o} e q => by subst q; rw [np] at e; cases e
  refine sv_cons (s1_forR (n := (n : Int)) 2 PassesOwn.never rfl nd (iv_range B.range (ev_fld T.cls T.width (ev_var 0 rfl) (by rw [Mem.put_ne (ne tab.A)]; exact tab.A) rfl ⟨rfl, rfl⟩) (by omega) (by omega))
    (fun i δ' μ' => μ' = μ.put p (.lst ((zero (m + n)).map .int)) ∧ ∃ z, δ' = [some (.ref a), some (.ref p), z]) ⟨rfl, none, rfl⟩ (fun i δ' μ' hi hI => ?_) (fun δ' μ' hI => ?_))
  · obtain ⟨rfl, z, rfl⟩ := hI
    have hin : i < n := by omega
    have tA : (μ.put p (.lst ((zero (m + n)).map .int))) a = some (.ins C (tfs m n r s t.z t.d)) := by rw [Mem.put_ne (ne tab.A)]; exact tab.A
    have tR : (μ.put p (.lst ((zero (m + n)).map .int))) r = some (.lst (trows m n t.R)) := by rw [Mem.put_ne (ne tab.R)]; exact tab.R
    have tS : (μ.put p (.lst ((zero (m + n)).map .int))) s = some (.lst (tbas n t.bs)) := by rw [Mem.put_ne (ne tab.S)]; exact tab.S
    refine sv_one (s1_setL (p := p) (ds := (zero (m + n)).map .int) (n := ((t.bs i : Nat) : Int)) (j := t.bs i) ((ev_ix (ev_ix (ev_fld T.cls T.rows (ev_var 0 rfl) tA rfl ⟨rfl, rfl⟩) (ev_var 2 rfl) (rd_ixM rfl tR (tr_at hin) ⟨rfl, rfl⟩)) (ev_un ev_int (ud_neg ⟨rfl, rfl⟩)) (rd_ixL rfl rl_last ⟨rfl, rfl⟩)).is
      ((ev_var 1 rfl).is ⟨rfl, (ev_ix (ev_fld T.cls T.basis (ev_var 0 rfl) tA rfl ⟨rfl, rfl⟩) (ev_var 2 rfl) (rd_ixM rfl tS (tb_at hin) ⟨rfl, rfl⟩)).is ⟨rfl, Mem.put_same, ixN_nat (by rw [List.length_map, zero_len]; exact h2 i hin), ?_, _, rfl⟩⟩)))
    rw [Mem.put_put, h1 i hin]
    have e : ((zero (m + n)).map D.int).set (t.bs i) (.int 0) = (zero (m + n)).map .int := by
      simp only [zero, List.map_replicate]
      exact List.set_replicate_self
    rw [e]
  · obtain ⟨rfl, z, rfl⟩ := hI
    refine sv_one (s1_ret (ev_drop (ev_callT0 (T := "tuple") (av_cons0 ((ev_slice (l := none) (u := some ((m : Nat) : Int)) (k := Is (.lst ((zero m).map .int)) _) (ev_var 1 rfl) .none (.some (ev_fld T.cls T.count (ev_var 0 rfl) (by rw [Mem.put_ne (ne tab.A)]; exact tab.A) rfl ⟨rfl, rfl⟩)) (sd_lst (.m Mem.put_same) (.inl ⟨?_, rfl⟩))).is (av_nil0 (cd_tuple (.inr .l) ⟨μ, sub_put np, hk⟩)))) B.tuple bt_tuple)))
    rw [cut_none]
    have e : (zero (m + n)).take m = zero m := by simp only [zero, List.take_replicate]; rw [Nat.min_eq_left (by omega)]
    rw [e]
theorem ok_ray (F : FunD K "ray" "Tableau.ray" (defArgs sRay) (defBody sRay) (defScope sRay) [] [] f fd) (B : Bt mg) (T : TC K C) : FnOk P w K mg base CX0 1 f fd ["self", "column"] (dsp K (pdRay C)) := by
  refine fn_dl F sc_ray (fun ds μ k h => by obtain ⟨a, b, c, d, e, g, i, rfl, _⟩ := h; rfl) fun cdv A outer s0 H E hr ds μ k h => ?_
  obtain ⟨m, n, t, a, r, s, c, rfl, tab, hz, hc, h1, hd, h2, hk⟩ := h
  have nd := sc_ray.nd
  refine sv_cons (s1_set 2 nd (ev_bin (ev_lst (av_cons ev_int av_nil) (by simp) (.inl ⟨rfl, rfl⟩)) (ev_bin (ev_fld T.cls T.count (ev_var 0 rfl) tab.A rfl ⟨rfl, rfl⟩) (ev_fld T.cls T.width (ev_var 0 rfl) tab.A rfl ⟨rfl, rfl⟩) (rd_add ⟨rfl, rfl⟩)) (rd_zeros (N := m + n) hz (.inr fun p np => ?_))))
  have ne : ∀ {b o}, μ b = some o → b ≠ p := fun {b o} e q => by subst q; rw [np] at e; cases e
  have tA : ∀ o, (μ.put p o) a = some (.ins C (tfs m n r s t.z t.d)) := fun o => by rw [Mem.put_ne (ne tab.A)]; exact tab.A
  have tR : ∀ o, (μ.put p o) r = some (.lst (trows m n t.R)) := fun o => by rw [Mem.put_ne (ne tab.R)]; exact tab.R
  have tS : ∀ o, (μ.put p o) s = some (.lst (tbas n t.bs)) := fun o => by rw [Mem.put_ne (ne tab.S)]; exact tab.S
  refine sv_cons (s1_setL (p := p) (ds := (zero (m + n)).map .int) (n := ((c : Nat) : Int)) (j := c) ((ev_fld T.cls T.scale (ev_var 0 rfl) (tA _) rfl ⟨rfl, rfl⟩).is ((ev_var 2 rfl).is ⟨rfl, (ev_var 1 rfl).is ⟨rfl, Mem.put_same, ixN_nat (by rw [List.length_map, zero_len]; exact hc), ?_⟩⟩)))
  refine sv_cons (s1_forR (n := (n : Int)) 3 PassesOwn.never rfl nd (iv_range B.range (ev_fld T.cls T.width (ev_var 0 rfl) (by rw [Mem.put_put]; exact tA _) rfl ⟨rfl, rfl⟩) (by omega) (by omega))
    (fun i δ' μ' => ∃ (xs : IL) (z : Option D), μ' = μ.put p (.lst (xs.map .int)) ∧ xs.length = m + n ∧ (∀ x ∈ xs, In30 x) ∧ δ' = [some (.ref a), some (.int (c : Nat)), some (.ref p), z]) ⟨(zero (m + n)).set c t.d, none, by rw [Mem.put_put, List.map_set], by rw [List.length_set, zero_len], at0_mem (fun x hx => ?_) hd, rfl⟩ (fun i δ' μ' hi hI => ?_) (fun δ' μ' hI => ?_))
  · have : x = 0 := by simp only [zero] at hx; exact (List.mem_replicate.mp hx).2
    subst this
    exact ⟨by omega, by omega⟩
  · obtain ⟨xs, z, rfl, hl, hx, rfl⟩ := hI
    have hin : i < n := by omega
    refine sv_one (s1_setL (p := p) (ds := xs.map .int) (n := ((t.bs i : Nat) : Int)) (j := t.bs i) ((ev_un (ev_ix (ev_ix (ev_fld T.cls T.rows (ev_var 0 rfl) (tA _) rfl ⟨rfl, rfl⟩) (ev_var 3 rfl) (rd_ixM rfl (tR _) (tr_at hin) ⟨rfl, rfl⟩)) (ev_var 1 rfl) (rd_ixL rfl (rl_at (by omega)) ⟨rfl, rfl⟩)) (ud_neg ⟨rfl, rfl⟩)).is
      ((ev_var 2 rfl).is ⟨rfl, (ev_ix (ev_fld T.cls T.basis (ev_var 0 rfl) (tA _) rfl ⟨rfl, rfl⟩) (ev_var 3 rfl) (rd_ixM rfl (tS _) (tb_at hin) ⟨rfl, rfl⟩)).is ⟨rfl, Mem.put_same, ixN_nat (by rw [List.length_map, hl]; exact h2 i hin), ?_⟩⟩)))
    refine ⟨xs.set (t.bs i) (- t.R i c), _, by rw [Mem.put_put, List.map_set], by rw [List.length_set, hl], at0_mem hx ?_, rfl⟩
    have := h1 i hin
    exact ⟨by have := this.2; omega, by have := this.1; omega⟩
  · obtain ⟨xs, z, rfl, hl, hx, rfl⟩ := hI
    refine sv_one (s1_ret (ev_drop (ev_callT0 (T := "tuple") (av_cons0 ((ev_slice (l := none) (u := some ((m : Nat) : Int)) (k := Is (.lst ((xs.take m).map .int)) _) (ev_var 2 rfl) .none (.some (ev_fld T.cls T.count (ev_var 0 rfl) (tA _) rfl ⟨rfl, rfl⟩)) (sd_lst (.m Mem.put_same) (.inl ⟨?_, rfl⟩))).is (av_nil0 (cd_tuple (.inr .l) ⟨μ, sub_put np, hk _ ?_ fun x hx' => hx x (List.mem_of_mem_take hx')⟩)))) B.tuple bt_tuple)))
    · rw [cut_none]
    · rw [List.length_take, hl]; omega
theorem ok_turn (F : FunD K "turn" "Tableau.turn" (defArgs sTurn) (defBody sTurn) (defScope sTurn) [] [] f fd) (B : Bt mg) (T : TC K C) (cC : CalM P w K mg base C "cleared" 1 (pdClr C)) : FnOk P w K mg base CX0 2 f fd ["self", "i", "column"] (dsp K (pdTurn C)) := by
  refine fn_dl F sc_turn (fun ds μ k h => by obtain ⟨a, b, c, d, e, g, i, j, rfl, _⟩ := h; rfl) fun cdv A outer s0 H E hr ds μ k h => ?_
  obtain ⟨m, n, t, a, r, s, i, c, rfl, tab, hz, hi, hc, d0, d1, h64, hk⟩ := h
  have nd := sc_turn.nd
  have hra : r ≠ a := fun e => by have := tab.R; rw [e, tab.A] at this; cases this
  have hsa : s ≠ a := fun e => by have := tab.S; rw [e, tab.A] at this; cases this
  refine sv_cons (s1_set 3 nd ((ev_ix (ev_ix (ev_fld T.cls T.rows (ev_var 0 rfl) tab.A rfl ⟨rfl, rfl⟩) (ev_var 1 rfl) (rd_ixM rfl tab.R (tr_at hi) ⟨rfl, rfl⟩)) (ev_var 2 rfl) (rd_ixL rfl (rl_at (by omega)) ⟨rfl, rfl⟩)).is ?_))
  refine sv_cons (s1_set 4 nd ((ev_ix (ev_fld T.cls T.rows (ev_var 0 rfl) tab.A rfl ⟨rfl, rfl⟩) (ev_var 1 rfl) (rd_ixM rfl tab.R (tr_at hi) ⟨rfl, rfl⟩)).is ?_))
  refine sv_cons (s1_forR (n := (n : Int)) 5 PassesOwn.never rfl nd (iv_range B.range (ev_fld T.cls T.width (ev_var 0 rfl) tab.A rfl ⟨rfl, rfl⟩) (by omega) (by omega))
    (fun j δ' μ' => (∃ z, δ' = [some (.ref a), some (.int (i : Nat)), some (.int (c : Nat)), some (.int (t.R i c)), some (.lst (rowL (m + n + 1) (t.R i))), z]) ∧
      μ' r = some (.lst ((List.range n).map fun k => .lst (rowL (m + n + 1) (if k < j then (Mx.turn t i c).R k else t.R k)))) ∧ ∀ b, b ≠ r → μ' b = μ b) ⟨⟨none, rfl⟩, ?_, fun b _ => rfl⟩ (fun j δ' μ' hj hI => ?_) (fun δ' μ' hI => ?_))
  · rw [tab.R]
    simp only [Nat.not_lt_zero, if_false]
    rfl
  · obtain ⟨⟨z, rfl⟩, hR, hoth⟩ := hI
    have hjn : j < n := by omega
    have tA : μ' a = some (.ins C (tfs m n r s t.z t.d)) := by rw [hoth a (Ne.symm hra)]; exact tab.A
    have ej : atI ((List.range n).map fun k => D.lst (rowL (m + n + 1) (if k < j then (Mx.turn t i c).R k else t.R k))) (j : Int) = some (.lst (rowL (m + n + 1) (t.R j))) := atI_nat (by simp [hjn])
    -- the next list of rows
    have step : ∀ v : Nat → Int, rowL (m + n + 1) v = rowL (m + n + 1) ((Mx.turn t i c).R j) → ((List.range n).map fun k => D.lst (rowL (m + n + 1) (if k < j then (Mx.turn t i c).R k else t.R k))).set j (.lst (rowL (m + n + 1) v)) = (List.range n).map fun k => .lst (rowL (m + n + 1) (if k < j + 1 then (Mx.turn t i c).R k else t.R k)) := fun v hv => by
      rw [set_range]
      refine List.map_congr_left fun k hk => ?_
      by_cases h : k = j
      · subst h
        rw [if_pos rfl, if_pos (by omega), hv]
      · rw [if_neg h]
        by_cases h2 : k < j
        · rw [if_pos h2, if_pos (by omega)]
        · rw [if_neg h2, if_neg (by omega)]
    refine sv_one (s1_ifB (c1 := !decide ((j : Int) = (i : Int))) (tv_cmp (ev_var 5 rfl) (ev_var 1 rfl) (rd_ne ⟨rfl, rfl⟩) ⟨rfl, rfl⟩) (fun h => sv_one ?_) (fun h => sv_nil ⟨⟨_, rfl⟩, ?_, hoth⟩))
    · have hji : j ≠ i := fun e => by subst e; simp at h
      refine s1_setL (p := r) (ds := (List.range n).map fun k => .lst (rowL (m + n + 1) (if k < j then (Mx.turn t i c).R k else t.R k))) (n := ((j : Nat) : Int)) (j := j) (ev_methC cC T.cls (hr.mono (by omega)) (ev_var 0 rfl) tA rfl
        ((av_cons (ev_ix (ev_fld T.cls T.rows (ev_var 0 rfl) tA rfl ⟨rfl, rfl⟩) (ev_var 5 rfl) (rd_ixM rfl hR ej ⟨rfl, rfl⟩)) (av_cons (ev_var 4 rfl) (av_cons (ev_var 2 rfl) (av_cons (ev_var 3 rfl) av_nil)))).is
          ⟨m + n + 1, t.R j, t.R i, a, _, c, t.R i c, t.d, rfl, tA, rfl, d0, d1, by omega, by omega, h64 c (by omega), h64, ?_⟩))
      refine (ev_fld T.cls T.rows (ev_var 0 rfl) tA rfl ⟨rfl, rfl⟩).is ⟨rfl, (ev_var 5 rfl).is ⟨rfl, hR, ixN_nat (by simpa using hjn), ⟨_, rfl⟩, ?_, fun b hb => by rw [Mem.put_ne hb]; exact hoth b hb⟩⟩
      rw [Mem.put_same, step]
      have e : (Mx.turn t i c).R j = fun l => (t.R j l * t.R i c - t.R j c * t.R i l) / t.d := by
        funext l
        show (if j = i then _ else _) = _
        rw [if_neg hji]
      rw [e]
    · have hji0 : (j : Int) = (i : Int) := by simpa using h
      have hji : j = i := by omega
      rw [hR]
      congr 2
      refine List.map_congr_left fun k hk => ?_
      by_cases h2 : k < j
      · rw [if_pos h2, if_pos (by omega)]
      · by_cases h3 : k = j
        · rw [if_neg h2, if_pos (by omega), h3, hji]
          congr 2
          funext l
          show _ = if i = i then _ else _
          rw [if_pos rfl]
        · rw [if_neg h2, if_neg (by omega)]
  · obtain ⟨⟨z, rfl⟩, hR, hoth⟩ := hI
    rw [Int.toNat_natCast] at hR
    have tA : μ' a = some (.ins C (tfs m n r s t.z t.d)) := by rw [hoth a (Ne.symm hra)]; exact tab.A
    have tS : μ' s = some (.lst (tbas n t.bs)) := by rw [hoth s (Ne.symm tab.rs)]; exact tab.S
    have tR : μ' r = some (.lst (trows m n (Mx.turn t i c).R)) := by
      rw [hR]
      congr 2
      exact List.map_congr_left fun k hk => by rw [if_pos (List.mem_range.mp hk)]
    refine sv_cons (s1_fld (a := a) (fs := tfs m n r s t.z t.d) T.cls T.goal (ev_methC cC T.cls (hr.mono (by omega)) (ev_var 0 rfl) tA rfl
      ((av_cons (ev_fld T.cls T.goal (ev_var 0 rfl) tA rfl ⟨rfl, rfl⟩) (av_cons (ev_var 4 rfl) (av_cons (ev_var 2 rfl) (av_cons (ev_var 3 rfl) av_nil)))).is
        ⟨m + n + 1, t.z, t.R i, a, _, c, t.R i c, t.d, rfl, tA, rfl, d0, d1, by omega, by omega, h64 c (by omega), h64, ?_⟩)))
    refine (ev_var 0 rfl).is ⟨rfl, tA, (show 6 < 1000 by decide), ?_⟩
    have e1 : putFD "goal" (.lst (rowL (m + n + 1) fun l => (t.z l * t.R i c - t.z c * t.R i l) / t.d)) (tfs m n r s t.z t.d) = tfs m n r s (Mx.turn t i c).z t.d := rfl
    rw [e1]
    refine sv_cons (s1_fld (a := a) (fs := tfs m n r s (Mx.turn t i c).z t.d) T.cls T.scale ((ev_var 3 rfl).is ((ev_var 0 rfl).is ⟨rfl, Mem.put_same, (show 6 < 1000 by decide), ?_⟩)))
    have e2 : putFD "scale" (.int (t.R i c)) (tfs m n r s (Mx.turn t i c).z t.d) = tfs m n r s (Mx.turn t i c).z (Mx.turn t i c).d := rfl
    rw [e2, Mem.put_put]
    have tA2 : (μ'.put a (.ins C (tfs m n r s (Mx.turn t i c).z (Mx.turn t i c).d))) a = some (.ins C (tfs m n r s (Mx.turn t i c).z (Mx.turn t i c).d)) := Mem.put_same
    have tS2 : (μ'.put a (.ins C (tfs m n r s (Mx.turn t i c).z (Mx.turn t i c).d))) s = some (.lst (tbas n t.bs)) := by rw [Mem.put_ne hsa]; exact tS
    refine sv_one (s1_setL (p := s) (ds := tbas n t.bs) (n := ((i : Nat) : Int)) (j := i) ((ev_var 2 rfl).is ((ev_fld T.cls T.basis (ev_var 0 rfl) tA2 rfl ⟨rfl, rfl⟩).is ⟨rfl, (ev_var 1 rfl).is ⟨rfl, tS2, ixN_nat (by simpa [tbas] using hi), ?_⟩⟩)))
    refine hk _ ⟨by rw [Mem.put_ne (Ne.symm hsa)]; exact tA2, by rw [Mem.put_ne tab.rs, Mem.put_ne hra]; exact tR, ?_, tab.rs⟩ fun b b1 b2 b3 => by rw [Mem.put_ne b3, Mem.put_ne b1]; exact hoth b b2
    rw [Mem.put_same]
    congr 2
    unfold tbas
    rw [set_range]
    refine List.map_congr_left fun k hk => ?_
    show _ = D.int ((if k = i then c else t.bs k : Nat))
    by_cases h : k = i
    · rw [if_pos h, if_pos h]
    · rw [if_neg h, if_neg h]
end
end Mw
set_option Elab.async false
set_option linter.all false
set_option maxRecDepth 100000
set_option maxHeartbeats 4000000
namespace Mw
open PySem PySem.Spec PyProof.Rows L2 DL Mh
open Mx (Tb)
/-- the rows of a system as a function -/
def rowF (rows : List IL) (j k : Nat) : Int := at0 (rows.getD j []) k
def bdF (bds : IL) (j : Nat) : Int := at0 bds j
def tab0 (n : Nat) (rows : List IL) (bds : IL) : Tb := Mx.t0 rows.length n (rowF rows) (bdF bds)
def f1 (n : Nat) : List (Str × D) := [("width", .int (n : Nat))]
def f2 (rows : List IL) (n : Nat) : List (Str × D) := [("width", .int (n : Nat)), ("count", .int (rows.length : Nat))]
def f3 (rows : List IL) (n : Nat) (r : Addr) : List (Str × D) := [("width", .int (n : Nat)), ("count", .int (rows.length : Nat)), ("rows", .ref r)]
def f4 (rows : List IL) (bds : IL) (n : Nat) (r : Addr) : List (Str × D) := [("width", .int (n : Nat)), ("count", .int (rows.length : Nat)), ("rows", .ref r), ("goal", .lst (rowL (rows.length + n + 1) (tab0 n rows bds).z))]
def f5 (rows : List IL) (bds : IL) (n : Nat) (r s : Addr) : List (Str × D) := [("width", .int (n : Nat)), ("count", .int (rows.length : Nat)), ("rows", .ref r), ("goal", .lst (rowL (rows.length + n + 1) (tab0 n rows bds).z)), ("basis", .ref s)]
abbrev sInit : Stmt := mth 0
theorem sc_init : FnScope ["self", "width", "system", "cost", "rows", "bounds", "j", "slack", "i", "row", "bound"] ["self", "width", "system", "cost"] (defScope sInit) := ⟨rfl, rfl, rfl, by decide +kernel, rfl, by decide +kernel, by decide +kernel⟩
def pdInit (C : Addr) : PD := fun ds μ k => ∃ (n : Nat) (rows : List IL) (bds : IL) (a : Addr), ds = [.ref a, .int (n : Nat), sysD rows bds, itup (zero n)] ∧ SysOk n rows bds ∧ μ a = some (.ins C []) ∧
  ∀ r s μ', TabAt C rows.length n (tab0 n rows bds) a r s μ' → μ r = none → μ s = none → (∀ b, b ≠ a → b ≠ r → b ≠ s → μ' b = μ b) → k .non μ'
theorem row0_eq (n : Nat) (rows : List IL) (bds : IL) (k : Nat) (hk : k < n) : (rows.map fun r => at0 r k).map D.int ++ ((List.range n).map fun i => D.int (if k = i then 1 else 0)) ++ [D.int 0] = rowL (rows.length + n + 1) ((tab0 n rows bds).R k) := by
  unfold rowL tab0 Mx.t0 Mx.av
  apply List.ext_getElem?
  intro j
  by_cases h1 : j < rows.length
  · rw [List.append_assoc, List.getElem?_append_left (by simpa using h1)]
    have h2 : j < rows.length + n + 1 := by omega
    simp [h1, h2, hk, rowF, List.getD_eq_getElem?_getD]
  · by_cases h2 : j < rows.length + n
    · rw [List.append_assoc, List.getElem?_append_right (by simpa using h1), List.getElem?_append_left (by simp; omega)]
      have h3 : j < rows.length + n + 1 := by omega
      have h4 : j - rows.length < n := by omega
      simp [h1, h2, h3, h4, Mx.unit]
    · by_cases h3 : j = rows.length + n
      · subst h3
        rw [List.getElem?_append_right (by simp)]
        simp
        rw [if_neg (by omega)]
      · rw [List.getElem?_eq_none (by simp; omega), List.getElem?_eq_none (by simp; omega)]
theorem goal0_eq (n : Nat) (rows : List IL) (bds : IL) (hb : bds.length = rows.length) : (bds.map fun b => D.int (-b)) ++ (zero (n + 1)).map .int = rowL (rows.length + n + 1) (tab0 n rows bds).z := by
  unfold rowL tab0 Mx.t0 Mx.av
  apply List.ext_getElem?
  intro j
  by_cases h1 : j < rows.length
  · rw [List.getElem?_append_left (by simpa [hb] using h1)]
    have h2 : j < rows.length + n + 1 := by omega
    have h3 : j < bds.length := by omega
    simp [h1, h2, h3, bdF, at0, List.getD_eq_getElem?_getD]
  · rw [List.getElem?_append_right (by simp; omega)]
    by_cases h2 : j < rows.length + n
    · have h3 : j < rows.length + n + 1 := by omega
      have h4 : j - bds.length < n + 1 := by omega
      have h5 : ¬ n = j - rows.length := by omega
      simp [h1, h2, h3, h4, h5, Mx.unit, zero]
    · by_cases h3 : j = rows.length + n
      · subst h3
        have h4 : rows.length + n - bds.length < n + 1 := by omega
        simp [h4, zero, hb]
        rw [if_neg (by omega)]
      · rw [List.getElem?_eq_none (by simp [zero]; omega), List.getElem?_eq_none (by simp; omega)]
section
variable {P : Program} {w : World} {K : PySem.W.Frag} {mg : Str → Option Value} {base : Heap} {f : Addr} {fd : FuncData} {C : Addr}
theorem ok_init (F : FunD K "__init__" "Tableau.__init__" (defArgs sInit) (defBody sInit) (defScope sInit) [] [] f fd) (B : Bt mg) (T : TC K C) : FnOk P w K mg base CX0 1 f fd ["self", "width", "system", "cost"] (dsp K (pdInit C)) := by
  refine fn_dl F sc_init (fun ds μ k h => by obtain ⟨a, b, c, d, rfl, _⟩ := h; rfl) fun cdv A outer s0 H E hr ds μ k h => ?_
  obtain ⟨n, rows, bds, a, rfl, ok, ha, hk⟩ := h
  have nd := sc_init.nd
  have n20 := ok.n20
  have r20 := ok.r20
  refine sv_cons (s1_asg ((ev_var 2 rfl).is (gv_tup rfl (gvs_cons (gv_name 4 nd (gvs_cons (gv_name 5 nd (gvs_nil ?_))))))))
  refine sv_cons (s1_fld (a := a) (fs := []) T.cls T.width ((ev_var 1 rfl).is ((ev_var 0 rfl).is ⟨rfl, ha, (show 0 < 1000 by decide), ?_⟩)))
  refine sv_cons (s1_fld (a := a) (fs := (f1 n)) T.cls T.count ((ev_callB (av_cons (ev_var 4 rfl) av_nil) (cd_len (k := Is (.int (rows.length : Nat)) _) (.inl rfl) ⟨by simp, rfl⟩) B.len PySem.boot_len).is ((ev_var 0 rfl).is ⟨rfl, Mem.put_same, (show 1 < 1000 by decide), ?_⟩)))
  rw [Mem.put_put]
  refine sv_cons (s1_fld (a := a) (fs := (f2 rows n)) T.cls T.rows (ev_lst av_nil (by simp) (.inr fun r nr => ?_)))
  have hra : r ≠ a := fun e => by subst e; rw [Mem.put_same] at nr; cases nr
  have nr' : μ r = none := by rw [Mem.put_ne hra] at nr; exact nr
  refine (ev_var 0 rfl).is ⟨rfl, by rw [Mem.put_ne (Ne.symm hra)]; exact Mem.put_same, (show 2 < 1000 by decide), ?_⟩
  have ef : putFD "rows" (.ref r) (f2 rows n) = (f3 rows n r) := rfl
  rw [ef]
  refine sv_cons (s1_forR (n := (n : Int)) 6 PassesOwn.never rfl nd (iv_range B.range (ev_var 1 rfl) (by omega) (by omega))
    (fun i δ' μ' => (∃ z1 z2, δ' = [some (.ref a), some (.int (n : Nat)), some (sysD rows bds), some (itup (zero n)), some (.tup (rows.map itup)), some (itup bds), z1, z2, none, none, none]) ∧
      μ' a = some (.ins C (f3 rows n r)) ∧ μ' r = some (.lst ((List.range i).map fun k => .lst (rowL (rows.length + n + 1) ((tab0 n rows bds).R k)))) ∧ ∀ b, b ≠ a → b ≠ r → μ' b = μ b)
    ⟨⟨none, none, rfl⟩, Mem.put_same, by rw [Mem.put_ne hra]; exact Mem.put_same, fun b b1 b2 => by rw [Mem.put_ne b1, Mem.put_ne b2, Mem.put_ne b1]⟩ (fun j δ' μ' hj hI => ?_) (fun δ' μ' hI => ?_))
  · obtain ⟨⟨z1, z2, rfl⟩, hA, hR, hoth⟩ := hI
    have hjn : j < n := by omega
    refine sv_cons (s1_setLcP (own := [("i", 8)]) 7 8 (iv_range B.range (ev_var 1 rfl) (by omega) (by omega)) (by simp; omega) (fun _ _ => true) (fun i _ => .int (if decide ((j : Int) = ((i : Nat) : Int)) then 1 else 0)) (fun _ _ => trivial)
      (fun i d μ' s H C cl fp hd _ => ts_nil ⟨rfl, rfl⟩) (fun i d' μ' s H C cl fp hd hsub _ => ?_) (fun p np => ?_) sc_init (sw_true rfl rfl rfl (by decide +kernel)))
    · obtain ⟨hi, rfl⟩ := rg_lt hd
      exact ev_callT (T := "int") (av_cons (ev_cmp (ev_var 6 rfl) (ev_var 8 rfl) (rd_eq ⟨rfl, rfl⟩)) av_nil) (cd_intB ⟨rfl, rfl⟩) B.int bt_int
    · have hpr : r ≠ p := fun e => by subst e; rw [hR] at np; cases np
      have hpa : a ≠ p := fun e => by subst e; rw [hA] at np; cases np
      refine sv_freeze (μ2 := μ') 7 rfl Mem.put_same (sub_put np) np ?_
      have ek : kept (rgD ((n : Int)).toNat) (fun _ _ => true) (fun i _ => D.int (if decide ((j : Int) = ((i : Nat) : Int)) then 1 else 0)) = (List.range n).map fun i => D.int (if j = i then 1 else 0) := by
        rw [kept_rg, Int.toNat_natCast]
        refine List.map_congr_left fun i _ => ?_
        by_cases h : j = i
        · simp [h]
        · have : ¬ (j : Int) = (i : Int) := by omega
          simp [h, this]
      rw [ek]
      refine sv_one (s1_expr (ev_app (p := r) (ds := (List.range j).map fun k => .lst (rowL (rows.length + n + 1) ((tab0 n rows bds).R k))) (ev_fld T.cls T.rows (ev_var 0 rfl) hA rfl ⟨rfl, rfl⟩)
        (ev_bin (ev_bin (ev_lcP (own := [("row", 9)]) (k := Is (.lst ((rows.map fun r => at0 r j).map D.int)) μ') 9 (iv_tup (ev_var 4 rfl)) (by simp; omega) (fun _ _ => true) (fun i _ => .int (rowF rows i j)) (fun _ _ => trivial)
          (fun i d μ' s H C cl fp hd _ => ts_nil ⟨rfl, rfl⟩) (fun i d' μ' s H C cl fp hd hsub _ => ?_) (.inl ⟨?_, rfl⟩) sc_init) (ev_var 7 rfl) (rd_cat (.inl rfl) (.inl rfl) (by simp; omega) (.inl ⟨rfl, rfl⟩))) (ev_lst (av_cons (ev_ix (ev_var 3 rfl) (ev_var 6 rfl) (rd_ixT rfl (it_at (by rw [zero_len]; exact hjn)) ⟨rfl, rfl⟩)) av_nil) (by simp) (.inl ⟨rfl, rfl⟩)) (rd_cat (.inl rfl) (.inl rfl) (by simp; omega) (.inl ⟨rfl, rfl⟩))) hR hR (by simp; omega) ?_))
      · rw [List.getElem?_map] at hd
        obtain ⟨x, hx, rfl⟩ : ∃ x, rows[i]? = some x ∧ itup x = d' := by
          cases q : rows[i]? with
          | none => rw [q] at hd; cases hd
          | some e => rw [q] at hd; exact ⟨e, rfl, Option.some.inj hd⟩
        have ex : rowF rows i j = x.getD j 0 := by
          have e0 : rows.getD i [] = x := by rw [List.getD_eq_getElem?_getD, hx]; rfl
          unfold rowF at0
          rw [e0]
        rw [ex]
        exact ev_ix (ev_var 9 rfl) (ev_var 6 rfl) (rd_ixT rfl (it_at (by rw [ok.rl x (List.mem_of_getElem? hx)]; exact hjn)) ⟨rfl, rfl⟩)
      · rw [kept_map _ _ rows (fun r => .int (at0 r j)) (by simp)]
        · rw [List.map_map]; rfl
        · intro i d x hd hx
          unfold rowF
          rw [List.getD_eq_getElem?_getD, hx]
          rfl
      · refine ⟨⟨_, _, rfl⟩, by rw [Mem.put_ne (Ne.symm hra)]; exact hA, ?_, fun b b1 b2 => by rw [Mem.put_ne b2]; exact hoth b b1 b2⟩
        rw [Mem.put_same]
        have e0 : (zero n).getD j 0 = 0 := zero_at
        rw [e0]
        have er := row0_eq n rows bds j hjn
        rw [List.range_succ, List.map_append]
        congr 2
        refine congrArg (_ ++ ·) ?_
        show [D.lst (((rows.map fun r => at0 r j).map D.int ++ ((List.range n).map fun i => D.int (if j = i then 1 else 0))) ++ [D.int 0])] = [D.lst _]
        rw [er]
  · obtain ⟨⟨z1, z2, rfl⟩, hA, hR, hoth⟩ := hI
    rw [Int.toNat_natCast] at hR
    refine sv_cons (s1_fld (a := a) (fs := (f3 rows n r)) T.cls T.goal ((ev_bin (ev_lcP (own := [("bound", 10)]) (k := Is (.lst (bds.map fun b => D.int (-b))) μ') 10 (iv_tup (ev_var 5 rfl)) (by simp; have := ok.bl; omega) (fun _ _ => true) (fun i _ => .int (- at0 bds i)) (fun _ _ => trivial)
      (fun i d μ' s H C cl fp hd _ => ts_nil ⟨rfl, rfl⟩) (fun i d' μ' s H C cl fp hd hsub _ => ?_) (.inl ⟨?_, rfl⟩) sc_init)
      (ev_bin (ev_lst (av_cons ev_int av_nil) (by simp) (.inl ⟨rfl, rfl⟩)) (ev_bin (ev_var 1 rfl) ev_int (rd_add ⟨rfl, rfl⟩)) (rd_zeros (N := n + 1) (by omega) (.inl ⟨rfl, rfl⟩))) (rd_cat (k := Is (.lst (rowL (rows.length + n + 1) (tab0 n rows bds).z)) μ') (.inl rfl) (.inl rfl) (by simp [zero]; have := ok.bl; omega) (.inl ⟨by rw [goal0_eq n rows bds ok.bl], rfl⟩))).is ((ev_var 0 rfl).is ⟨rfl, hA, (show 3 < 1000 by decide), ?_⟩)))
    · rw [List.getElem?_map] at hd
      obtain ⟨x, hx, rfl⟩ : ∃ x, bds[i]? = some x ∧ D.int x = d' := by
        cases q : bds[i]? with
        | none => rw [q] at hd; cases hd
        | some e => rw [q] at hd; exact ⟨e, rfl, Option.some.inj hd⟩
      have ex : at0 bds i = x := by unfold at0; rw [List.getD_eq_getElem?_getD, hx]; rfl
      rw [ex]
      exact ev_un (ev_var 10 rfl) (ud_neg ⟨rfl, rfl⟩)
    · rw [kept_map _ _ bds (fun b => .int (-b)) (by simp)]
      intro i d x hd hx
      have ex : at0 bds i = x := by unfold at0; rw [List.getD_eq_getElem?_getD, hx]; rfl
      rw [ex]
    · have ef : putFD "goal" (.lst (rowL (rows.length + n + 1) (tab0 n rows bds).z)) (f3 rows n r) = (f4 rows bds n r) := rfl
      rw [ef]
      generalize hμ2 : μ'.put a _ = μ2
      have hA2 : μ2 a = some (.ins C (f4 rows bds n r)) := by rw [← hμ2, Mem.put_same]
      have hR2 : μ2 r = some (.lst (trows rows.length n (tab0 n rows bds).R)) := by rw [← hμ2, Mem.put_ne hra]; exact hR
      have hoth2 : ∀ b, b ≠ a → b ≠ r → μ2 b = μ b := fun b b1 b2 => by rw [← hμ2, Mem.put_ne b1]; exact hoth b b1 b2
      refine sv_cons (s1_fld (a := a) (fs := (f4 rows bds n r)) T.cls T.basis (ev_lcP (own := [("j", 6)]) 6 (iv_range B.range (ev_var 1 rfl) (by omega) (by omega)) (by simp; omega) (fun _ _ => true) (fun i _ => .int ((rows.length + i : Nat) : Int)) (fun _ _ => trivial)
        (fun i d μ' s H C cl fp hd _ => ts_nil ⟨rfl, rfl⟩) (fun i d' μ' s H C cl fp hd hsub _ => ?_) (.inr fun s ns => ?_) sc_init))
      · obtain ⟨hi, rfl⟩ := rg_lt hd
        exact ev_bin (ev_fld T.cls T.count (ev_var 0 rfl) (hsub a _ hA2) rfl ⟨rfl, rfl⟩) (ev_var 6 rfl) (rd_add ⟨by simp, rfl⟩)
      · have hsa : s ≠ a := fun e => by subst e; rw [hA2] at ns; cases ns
        have hsr : s ≠ r := fun e => by subst e; rw [hR2] at ns; cases ns
        have ns' : μ s = none := by rw [← hoth2 s hsa hsr]; exact ns
        refine (ev_var 0 rfl).is ⟨rfl, by rw [Mem.put_ne (Ne.symm hsa)]; exact hA2, (show 4 < 1000 by decide), ?_⟩
        have ef2 : putFD "basis" (.ref s) (f4 rows bds n r) = (f5 rows bds n r s) := rfl
        rw [ef2]
        refine sv_one (s1_fld (a := a) (fs := (f5 rows bds n r s)) T.cls T.scale (ev_int.is ((ev_var 0 rfl).is ⟨rfl, Mem.put_same, (show 5 < 1000 by decide), ?_⟩)))
        rw [Mem.put_put]
        refine hk r s _ ⟨Mem.put_same, by rw [Mem.put_ne hra, Mem.put_ne (Ne.symm hsr)]; exact hR2, ?_, Ne.symm hsr⟩ nr' ns' fun b b1 b2 b3 => by rw [Mem.put_ne b1, Mem.put_ne b3]; exact hoth2 b b1 b2
        rw [Mem.put_ne hsa, Mem.put_same, kept_rg, Int.toNat_natCast]
        rfl
end
end Mw
set_option Elab.async false
set_option linter.all false
set_option maxRecDepth 100000
set_option maxHeartbeats 4000000
namespace Mw
open PySem PySem.Spec PyProof.Rows L2 DL Mh
open Mx (Tb)
/-- a class that may be called by its name -/
structure CalI (P : Program) (w : World) (K : PySem.W.Frag) (mg : Str → Option Value) (base : Heap) (x : Str) (C : Addr) (j : Nat) (pd : PD) : Prop where
  ex : ∃ (f : Addr) (fd : FuncData) (ps : List Str), mg x = some (.ref C) ∧ Mk K C f ∧ Binds K fd ps [] ∧ FnOk P w K mg base CX0 j f fd ps (dsp K pd)
theorem ev_makeC {X : Cx} {δ : DS} {μ : Mem} {k : D → Mem → Prop} {e : Expr} {es : List Expr} {pos : Pos} {j : Nat} {C : Addr} {P : PD} {x : Str} {p : Pos} (c : CalI X.prog X.w X.K X.mg X.base x C j P) (hr : Room (j + 1) X.A) (h : AV X (e :: es) δ μ fun ds μ1 => ∀ a, μ1 a = none → P (.ref a :: ds) (μ1.put a (.ins C [])) fun d μ2 => d = .non ∧ k (.ref a) μ2) (hg : Gl X x := by rfl) (hdb : (x == ("__debug__" : Str)) = false := by decide)
    (he : starEach (e :: es) X.env = (false, eval e X.env) :: starEach es X.env := by rfl) (hpl : (backTo pos (starEach es X.env)).any (·.1) = false := by rfl) : EV X (.Call (.Name x p) (e :: es) [] pos) δ μ k := by
  obtain ⟨f, fd, ps, hm, M, hb, F⟩ := c.ex
  exact ev_make M F hr hm hb pass0 h hg hdb he hpl
theorem cut_last (xs : IL) (x : Int) : DL.cutD ((xs ++ [x]).map D.int) none (some (-1)) = xs.map D.int := by
  unfold DL.cutD
  have e1 : HT.sIx ((xs ++ [x]).map D.int).length 0 none = 0 := rfl
  have e2 : HT.sIx ((xs ++ [x]).map D.int).length ((xs ++ [x]).map D.int).length (some (-1)) = xs.length := by
    show (if ((-1 : Int) < 0) then ((-1 : Int) + (((xs ++ [x]).map D.int).length : Int)).toNat else min (-1 : Int).toNat ((xs ++ [x]).map D.int).length) = xs.length
    rw [if_pos (by omega)]
    simp
    omega
  rw [e1, e2, List.drop_zero, Nat.sub_zero, List.map_append]
  rw [List.take_append_of_le_length (by simp), List.take_of_length_le (by simp)]
theorem at_last (xs : IL) (x : Int) : atI ((xs ++ [x]).map D.int) (-1) = some (.int x) := by
  unfold atI
  have e : ixN ((xs ++ [x]).map D.int).length (-1) = some xs.length := by
    unfold ixN
    rw [if_neg (by omega), if_pos (by simp; omega)]
    congr 1
    simp
    omega
  rw [e]
  simp
theorem itup_app (xs : IL) (d : Int) : (.tup (xs.map D.int ++ [.int d]) : D) = itup (xs ++ [d]) := by simp [itup]
theorem ev_cutl {X : Cx} {δ : DS} {μ : Mem} {a e : Expr} {p2 pos : Pos} (xs : IL) (x : Int) (ha : EV X a δ μ (Is (itup (xs ++ [x])) μ)) (hu : EV X e δ μ (Is (.int (-1)) μ)) : EV X (.Subscript a (.Slice none (some e) none p2) pos) δ μ (Is (itup xs) μ) :=
  ev_slice (l := none) (u := some (-1)) ha .none (.some hu) (sd_tup ⟨by rw [cut_last], rfl⟩)
/-- prices that satisfy a system with bounds that are not negative -/
structure Fine (n : Nat) (rows : List IL) (p : IL) : Prop where
  len : p.length = n
  nn : ∀ i, i < n → 0 ≤ at0 p i
  sm : ∀ i, i < n → at0 p i < 2 ^ 30
  ok : ∀ j, j < rows.length → 0 ≤ Mx.S n fun i => rowF rows j i * at0 p i
structure Sys5 (n : Nat) (rows : List IL) (bds : IL) : Prop where
  n6 : n ≤ 6
  r9 : rows.length ≤ 9
  row : ∀ j i, (rowF rows j i).natAbs ≤ 5
  bd : ∀ j, 0 ≤ bdF bds j ∧ bdF bds j ≤ 5
abbrev sOpt : Stmt := top 29
theorem sc_opt : FnScope ["width", "system", "cost", "table", "column", "i", "point", "witness"] ["width", "system", "cost"] (defScope sOpt) := ⟨rfl, rfl, rfl, by decide +kernel, rfl, by decide +kernel, by decide +kernel⟩
def pdOpt : PD := fun ds μ k => ∃ (n : Nat) (rows : List IL) (bds : IL), ds = [.int (n : Nat), sysD rows bds, itup (zero n)] ∧ SysOk n rows bds ∧ Sys5 n rows bds ∧ (∀ xs : IL, xs.length = rows.length → k (.tup [.str "none", itup xs]) μ) ∧
  ∀ (p : IL) (d : Int) (y : D), Fine n rows p → k (.tup [.str "best", .tup [itup p, .int d], y]) μ
theorem big_ok {n : Nat} (h : n ≤ 6) : Mx.fact (n + 1) * 5 ^ (n + 1) < 2 ^ 30 := by
  have : n = 0 ∨ n = 1 ∨ n = 2 ∨ n = 3 ∨ n = 4 ∨ n = 5 ∨ n = 6 := by omega
  rcases this with h | h | h | h | h | h | h <;> subst h <;> decide
theorem in30_of {x : Int} {N : Nat} (h : x.natAbs ≤ N) (h2 : N < 2 ^ 30) : In30 x := by unfold In30; omega
section
variable {n : Nat} {rows : List IL} {bds : IL} {t : Tb}
abbrev avS (n : Nat) (rows : List IL) (bds : IL) : Nat → Mx.Vec := Mx.av rows.length n (rowF rows) (bdF bds)
abbrev InvS (n : Nat) (rows : List IL) (bds : IL) (t : Tb) : Prop := Mx.Inv n (rows.length + n + 1) (avS n rows bds) t
structure Sized (n : Nat) (rows : List IL) (t : Tb) : Prop where
  R : ∀ k j, k < n → j < rows.length + n + 1 → In30 (t.R k j)
  z : ∀ j, j < rows.length + n + 1 → In30 (t.z j)
  d : In30 t.d
theorem sized (S5 : Sys5 n rows bds) (I : InvS n rows bds t) : Sized n rows t := by
  have b := big_ok S5.n6
  obtain ⟨h1, h2, h3⟩ := I.size (M := 5) (fun j m _ _ => Mx.av_size (by omega) (fun j m _ _ => S5.row j m) (fun j _ => by have := S5.bd j; omega) j m) (by omega)
  exact ⟨fun k j hk hj => in30_of (h1 k j hk hj) b, fun j hj => in30_of (h2 j hj) b, in30_of h3 b⟩
theorem Sg_mul (n : Nat) (f g : Nat → Int) (c : Int) (h : ∀ i, i < n → g i = c * f i) : Mx.S n g = c * Mx.S n f := by
  rw [← Mx.S_mul]; exact Mx.S_congr h
/-- the last tableau's prices -/
theorem fine_of (S5 : Sys5 n rows bds) (I : InvS n rows bds t) (hz : ∀ j, j < rows.length + n → 0 ≤ t.z j) {f : Int} (f0 : 0 < f) (hf : ∀ i, i < n → f ∣ t.z (rows.length + i)) : Fine n rows ((List.range n).map fun i => t.z (rows.length + i) / f) := by
  have sz := sized S5 I
  refine ⟨by simp, fun i hi => ?_, fun i hi => ?_, fun j hj => ?_⟩
  · rw [at0_map hi]
    exact Int.ediv_nonneg (hz _ (by omega)) (by omega)
  · rw [at0_map hi]
    have h1 := hz (rows.length + i) (by omega)
    have h2 := (sz.z (rows.length + i) (by omega)).2
    have h3 : t.z (rows.length + i) / f ≤ t.z (rows.length + i) := Int.ediv_le_self _ h1
    omega
  · have hw := I.worth hj
    have hd := I.pos
    have hb := (S5.bd j).1
    have h1 : 0 ≤ Mx.S n fun i => rowF rows j i * t.z (rows.length + i) := by
      have := hz j (by omega)
      have h2 : 0 ≤ bdF bds j * t.d := Int.mul_nonneg hb (by omega)
      omega
    have e : Mx.S n (fun i => rowF rows j i * t.z (rows.length + i)) = f * Mx.S n fun i => rowF rows j i * at0 ((List.range n).map fun i => t.z (rows.length + i) / f) i := Sg_mul n _ _ f fun i hi => by
      rw [at0_map hi, Int.mul_left_comm, Int.mul_ediv_cancel' (hf i hi)]
    rw [e] at h1
    by_cases hneg : Mx.S n (fun i => rowF rows j i * at0 ((List.range n).map fun i => t.z (rows.length + i) / f) i) < 0
    · have := Int.mul_neg_of_pos_of_neg f0 hneg
      omega
    · omega
end
section
variable {P : Program} {w : World} {K : PySem.W.Frag} {mg : Str → Option Value} {base : Heap} {f : Addr} {fd : FuncData} {C : Addr}
theorem ok_opt (F : FunD K "optimum" "optimum" (defArgs sOpt) (defBody sOpt) (defScope sOpt) [] [] f fd) (B : Bt mg) (T : TC K C) (cI : CalI P w K mg base "Tableau" C 1 (pdInit C)) (cE : CalM P w K mg base C "entering" 1 (pdEnt C)) (cL : CalM P w K mg base C "leaving" 2 (pdLeav C)) (cT : CalM P w K mg base C "turn" 2 (pdTurn C))
    (cY : CalM P w K mg base C "ray" 1 (pdRay C)) (cP : CalM P w K mg base C "prices" 1 (pdPrc C)) (cW : CalM P w K mg base C "weights" 1 (pdWts C)) (cR : Cal P w K mg base "reduced" 2 pdRed) : FnOk P w K mg base CX0 3 f fd ["width", "system", "cost"] (dsp K pdOpt) := by
  refine fn_dl F sc_opt (fun ds μ k h => by obtain ⟨a, b, c, rfl, _⟩ := h; rfl) fun cdv A outer s0 H E hr ds μ k h => ?_
  obtain ⟨n, rows, bds, rfl, ok, S5, hk1, hk2⟩ := h
  have nd := sc_opt.nd
  have n6 := S5.n6
  have r9 := S5.r9
  refine sv_cons (s1_set 3 nd (ev_makeC cI (hr.mono (by omega)) ((av_cons (ev_var 0 rfl) (av_cons (ev_var 1 rfl) (av_cons (ev_var 2 rfl) av_nil))).is fun a na => ⟨n, rows, bds, a, rfl, ok, Mem.put_same, fun r s μ1 tab nr ns hoth => ⟨rfl, ?_⟩⟩)))
  have hra : r ≠ a := fun e => by subst e; rw [Mem.put_same] at nr; cases nr
  have hsa : s ≠ a := fun e => by subst e; rw [Mem.put_same] at ns; cases ns
  have nr' : μ r = none := by rw [Mem.put_ne hra] at nr; exact nr
  have ns' : μ s = none := by rw [Mem.put_ne hsa] at ns; exact ns
  have hoth1 : ∀ b, b ≠ a → b ≠ r → b ≠ s → μ1 b = μ b := fun b b1 b2 b3 => by rw [hoth b b1 b2 b3, Mem.put_ne b1]
  have subOf : ∀ μ' : Mem, (∀ b, b ≠ a → b ≠ r → b ≠ s → μ' b = μ b) → DL.Sub μ μ' := fun μ' h b o e => by
    rw [h b (fun q => by subst q; rw [na] at e; cases e) (fun q => by subst q; rw [nr'] at e; cases e) (fun q => by subst q; rw [ns'] at e; cases e)]
    exact e
  -- what holds ahead of the test
  let I : Nat → DS → Mem → Prop := fun m δ' μ' => ∃ (N : Nat) (st : Nat → Tb) (rr cc : Nat → Nat) (col : D) (z1 : Option D), st 0 = tab0 n rows bds ∧ (∀ i, i < N → Mx.Piv n (rows.length + n) (st i) (rr i) (cc i) (st (i + 1))) ∧ m = 2 ^ (rows.length + n) - N ∧ TabAt C rows.length n (st N) a r s μ' ∧ (∀ b, b ≠ a → b ≠ r → b ≠ s → μ' b = μ b) ∧
    δ' = [some (.int (n : Nat)), some (sysD rows bds), some (itup (zero n)), some (.ref a), some col, z1, none, none] ∧ ((col = .non ∧ ∀ j, j < rows.length + n → 0 ≤ (st N).z j) ∨ ∃ c : Nat, col = .int (c : Nat) ∧ c < rows.length + n ∧ (st N).z c < 0 ∧ ∀ j, j < c → 0 ≤ (st N).z j)
  have hrun : ∀ {N : Nat} {st : Nat → Tb} {rr cc : Nat → Nat}, st 0 = tab0 n rows bds → (∀ i, i < N → Mx.Piv n (rows.length + n) (st i) (rr i) (cc i) (st (i + 1))) → InvS n rows bds (st N) ∧ N < 2 ^ (rows.length + n) := fun {N st rr cc} h0 hp => by
    have i0 : InvS n rows bds (st 0) := by rw [h0]; exact Mx.inv0
    exact ⟨Mx.run_inv (by omega) i0 hp N (Nat.le_refl _), Mx.run_short (by omega) i0 (fun k hk => by rw [h0]; show rows.length + k < _; omega) hp⟩
  have cont : ∀ m δ' μ', I m δ' μ' → SV (cxOf CX0 P w K mg base ["width", "system", "cost", "table", "column", "i", "point", "witness"] "optimum" (defScope sOpt) f cdv A outer s0 H E).nox ((defBody sOpt).drop 2) δ' μ' { nx := fun _ μ' => k .non μ', rt := k } := by
    intro m δ' μ' hI
    refine sv_cons (s1_whileR PassesOwn.never I m hI fun m δ' μ' hI => ?_)
    obtain ⟨N, st, rr, cc, col, z1, h0, hp, rfl, tab, hoth, rfl, hcol⟩ := hI
    obtain ⟨inv, hN⟩ := hrun h0 hp
    have sz := sized S5 inv
    have rhs : ∀ i, i < n → (st N).R i (rows.length + n) = 0 := fun i hi => inv.rhs hi
    have bsl : ∀ i, i < n → (st N).bs i < rows.length + n := fun i hi => by
      have h1 := inv.lt i hi
      have hb : ∀ q, q ≤ N → ∀ k, k < n → (st q).bs k < rows.length + n := by
        intro q
        induction q with
        | zero => intro _ k hk; rw [h0]; show rows.length + k < _; omega
        | succ q ih =>
          intro hq k hk
          have P := hp q (by omega)
          rw [P.eq]
          show (if k = rr q then cc q else (st q).bs k) < _
          split
          · exact P.hc
          · exact ih (by omega) k hk
      exact hb N (Nat.le_refl _) i hi
    refine tv_notN (ev_var 4 rfl) ?_
    rcases hcol with ⟨rfl, hz⟩ | ⟨c, rfl, hc, hneg, hmin⟩
    · -- the end
      refine ⟨nofun, fun _ => ?_⟩
      have epr : ∀ g : Int, ((((List.range n).map fun i => (st N).z (rows.length + i)) ++ [(st N).d]).map fun x => x / g) = ((List.range n).map fun i => (st N).z (rows.length + i) / g) ++ [(st N).d / g] := fun g => by
        rw [List.map_append, List.map_map]; rfl
      refine sv_cons (s1_set 6 nd (ev_callC cR (hr.mono (by omega)) (av_cons0 (ev_bin0 (ev_methC0 cP T.cls (hr.mono (by omega)) (ev_var 3 rfl) tab.A rfl ⟨rows.length, n, _, a, r, s, rfl, tab, ?_⟩)))))
      refine ((ev_fld T.cls T.scale (ev_var 3 rfl) tab.A rfl ⟨rfl, rfl⟩ : EV _ _ _ _ (Is (.int (st N).d) _)) |> fun hsc => (ev_tup (av_cons hsc av_nil) (by simp) (k := Is (.tup [.int (st N).d]) _) ⟨rfl, rfl⟩)).mono fun y μ2 ⟨e1, e2⟩ μ3 e3 => ?_
      subst e1 e2 e3
      refine rd_catT rfl (by simp; omega) (av_nil0 ⟨((List.range n).map fun i => (st N).z (rows.length + i)) ++ [(st N).d], by rw [itup_app], by simp; omega, fun x hx => ?_, fun g g0 gd => ?_⟩)
      · rcases List.mem_append.mp hx with hx | hx
        · obtain ⟨i, hi, rfl⟩ := List.mem_map.mp hx
          exact sz.z _ (by have := List.mem_range.mp hi; omega)
        · simp at hx; subst hx; exact sz.d
      · rw [epr]
        have fine := fine_of S5 inv hz g0 fun i hi => gd _ (List.mem_append_left _ (List.mem_map.mpr ⟨i, List.mem_range.mpr hi, rfl⟩))
        generalize ((List.range n).map fun i => (st N).z (rows.length + i) / g) = p at fine ⊢
        have hm1 : ∀ {X : Cx} {δ : DS} {m0 : Mem} {p1 p2 : Pos} {j : Nat}, EV X (.UnaryOp .USub (.Constant (.int 1) j p1) p2) δ m0 (Is (.int (-1)) m0) := fun {X δ m0 p1 p2 j} => ev_un ev_int (ud_neg ⟨rfl, rfl⟩)
        refine sv_cons (s1_set 7 nd (ev_callC cR (hr.mono (by omega)) (av_cons0 (ev_bin0 (ev_methC0 cW T.cls (hr.mono (by omega)) (ev_var 3 rfl) tab.A rfl ⟨rows.length, n, _, a, r, s, rfl, tab, by omega, rhs, bsl, ?_⟩)))))
        refine ((ev_fld T.cls T.scale (ev_var 3 rfl) tab.A rfl ⟨rfl, rfl⟩ : EV _ _ _ _ (Is (.int (st N).d) _)) |> fun hsc => (ev_tup (av_cons hsc av_nil) (by simp) (k := Is (.tup [.int (st N).d]) _) ⟨rfl, rfl⟩)).mono fun y μ2 ⟨e1, e2⟩ μ3 e3 => ?_
        subst e1 e2 e3
        refine rd_catT rfl (by simp [zero]; omega) (av_nil0 ⟨zero rows.length ++ [(st N).d], by rw [itup_app], by simp [zero]; omega, fun x hx => ?_, fun g2 g20 gd2 => ?_⟩)
        · rcases List.mem_append.mp hx with hx | hx
          · have : x = 0 := by simp only [zero] at hx; exact (List.mem_replicate.mp hx).2
            subst this
            exact ⟨by omega, by omega⟩
          · simp at hx; subst hx; exact sz.d
        · have ew : ((zero rows.length ++ [(st N).d]).map fun x => x / g2) = ((zero rows.length).map fun x => x / g2) ++ [(st N).d / g2] := by rw [List.map_append]; rfl
          rw [ew]
          generalize ((zero rows.length).map fun x => x / g2) = ws
          refine sv_one (s1_ret (ev_drop (ev_tup0 (av_cons0 (ev_str.is (av_cons0 ((ev_tup (av_cons (ev_cutl _ _ (ev_var 6 rfl) hm1) (av_cons (ev_ix (ev_var 6 rfl) hm1 (rd_ixT rfl (at_last _ _) ⟨rfl, rfl⟩)) av_nil)) (by simp) (k := Is (.tup [itup p, .int ((st N).d / g)]) _) ⟨rfl, rfl⟩).is
            (av_cons0 ((ev_tup (av_cons (ev_cutl _ _ (ev_var 7 rfl) hm1) (av_cons (ev_ix (ev_var 7 rfl) hm1 (rd_ixT rfl (at_last _ _) ⟨rfl, rfl⟩)) av_nil)) (by simp) (k := Is (.tup [itup ws, .int ((st N).d / g2)]) _) ⟨rfl, rfl⟩).is (av_nil0 ⟨by simp, μ, subOf _ hoth, hk2 p _ _ fine⟩))))))))))
    · refine ⟨fun _ => ?_, nofun⟩
      refine sv_cons (s1_set 5 nd (ev_methC cL T.cls (hr.mono (by omega)) (ev_var 3 rfl) tab.A rfl ((av_cons (ev_var 4 rfl) av_nil).is ⟨rows.length, n, _, a, r, s, c, rfl, tab, by omega, hc, rhs, fun i hi hpos hlow => ?_, fun hall => ?_⟩)))
      · refine sv_cons (s1_ifB (c1 := false) (tv_isN (ev_var 5 rfl) ⟨rfl, rfl⟩) (fun h => by cases h) fun _ => sv_nil ?_)
        have PV : Mx.Piv n (rows.length + n) (st N) i c (Mx.turn (st N) i c) := ⟨hi, hc, hneg, hmin, hpos, fun k hk hk2 => hlow k hk hk2, rfl⟩
        have d2 := sz.d
        refine sv_cons (s1_expr (ev_methC cT T.cls (hr.mono (by omega)) (ev_var 3 rfl) tab.A rfl ((av_cons (ev_var 5 rfl) (av_cons (ev_var 4 rfl) av_nil)).is ⟨rows.length, n, _, a, r, s, i, c, rfl, tab, by omega, hi, hc, inv.pos, d2.2, fun j hj => ?_, fun μ2 tab2 hoth2 => ?_⟩)))
        · have := sz.R i j hi hj
          unfold In30 at this
          unfold In64
          omega
        · -- the next state
          let st2 : Nat → Tb := fun q => if q ≤ N then st q else Mx.turn (st N) i c
          let rr2 : Nat → Nat := fun q => if q < N then rr q else i
          let cc2 : Nat → Nat := fun q => if q < N then cc q else c
          have h02 : st2 0 = tab0 n rows bds := by show (if 0 ≤ N then st 0 else _) = _; rw [if_pos (Nat.zero_le _)]; exact h0
          have hp2 : ∀ q, q < N + 1 → Mx.Piv n (rows.length + n) (st2 q) (rr2 q) (cc2 q) (st2 (q + 1)) := fun q hq => by
            by_cases h : q < N
            · have e1 : st2 q = st q := by show (if q ≤ N then _ else _) = _; rw [if_pos (by omega)]
              have e2 : st2 (q + 1) = st (q + 1) := by show (if q + 1 ≤ N then _ else _) = _; rw [if_pos (by omega)]
              have e3 : rr2 q = rr q := by show (if q < N then _ else _) = _; rw [if_pos h]
              have e4 : cc2 q = cc q := by show (if q < N then _ else _) = _; rw [if_pos h]
              rw [e1, e2, e3, e4]
              exact hp q h
            · have eq : q = N := by omega
              subst eq
              have e1 : st2 q = st q := by show (if q ≤ q then _ else _) = _; rw [if_pos (Nat.le_refl _)]
              have e2 : st2 (q + 1) = Mx.turn (st q) i c := by show (if q + 1 ≤ q then _ else _) = _; rw [if_neg (by omega)]
              have e3 : rr2 q = i := by show (if q < q then _ else _) = _; rw [if_neg (by omega)]
              have e4 : cc2 q = c := by show (if q < q then _ else _) = _; rw [if_neg (by omega)]
              rw [e1, e2, e3, e4]
              exact PV
          have eN : st2 (N + 1) = Mx.turn (st N) i c := by show (if N + 1 ≤ N then _ else _) = _; rw [if_neg (by omega)]
          have hN2 := (hrun h02 hp2).2
          have hoth3 : ∀ b, b ≠ a → b ≠ r → b ≠ s → μ2 b = μ b := fun b b1 b2 b3 => by rw [hoth2 b b1 b2 b3]; exact hoth b b1 b2 b3
          rw [← eN] at tab2
          refine sv_one (s1_set 4 nd (ev_methC0 cE T.cls (hr.mono (by omega)) (ev_var 3 rfl) tab2.A rfl ⟨rows.length, n, _, a, r, s, rfl, tab2, by omega, fun c' hc' hz' hmin' => ?_, fun hz' => ?_⟩))
          · exact ⟨2 ^ (rows.length + n) - (N + 1), by omega, N + 1, st2, rr2, cc2, _, _, h02, hp2, rfl, tab2, hoth3, rfl, .inr ⟨c', rfl, hc', hz', hmin'⟩⟩
          · exact ⟨2 ^ (rows.length + n) - (N + 1), by omega, N + 1, st2, rr2, cc2, _, _, h02, hp2, rfl, tab2, hoth3, rfl, .inl ⟨rfl, hz'⟩⟩
      · refine sv_cons (s1_ifB (c1 := true) (tv_isN (ev_var 5 rfl) ⟨rfl, rfl⟩) (fun _ => sv_one (s1_ret (ev_drop (ev_tup0 (av_cons0 (ev_str.is (av_cons0 (ev_callC cR (hr.mono (by omega)) (av_cons0 (ev_methC cY T.cls (hr.mono (by omega)) (ev_var 3 rfl) tab.A rfl ((av_cons (ev_var 4 rfl) av_nil).is ⟨rows.length, n, _, a, r, s, c, rfl, tab, by omega, hc, fun i hi => sz.R i c hi (by omega), sz.d, bsl, fun xs hl hx => ?_⟩)))))))))) ) fun h => by cases h)
        exact av_nil0 ⟨xs, rfl, by omega, hx, fun g g0 gd => av_nil0 ⟨by simp, μ, subOf μ' hoth, hk1 _ (by rw [List.length_map]; exact hl)⟩⟩
  refine sv_cons (s1_set 4 nd (ev_methC0 cE T.cls (hr.mono (by omega)) (ev_var 3 rfl) tab.A rfl ⟨rows.length, n, _, a, r, s, rfl, tab, by omega, fun c hc hz hmin => ?_, fun hz => ?_⟩))
  · exact cont _ _ _ ⟨0, fun _ => tab0 n rows bds, fun _ => 0, fun _ => 0, _, _, rfl, fun i hi => by omega, rfl, tab, hoth1, rfl, .inr ⟨c, rfl, hc, hz, hmin⟩⟩
  · exact cont _ _ _ ⟨0, fun _ => tab0 n rows bds, fun _ => 0, fun _ => 0, _, _, rfl, fun i hi => by omega, rfl, tab, hoth1, rfl, .inl ⟨rfl, hz⟩⟩
end
end Mw
set_option Elab.async false
set_option linter.all false
set_option maxRecDepth 100000
set_option maxHeartbeats 4000000
namespace Mw
open PySem PySem.Spec PyProof.Rows L2 DL Mh
abbrev sSolve : Stmt := top 27
theorem sc_solve : FnScope ["width", "system", "found"] ["width", "system"] (defScope sSolve) := ⟨rfl, rfl, rfl, by decide +kernel, rfl, by decide +kernel, by decide +kernel⟩
def pdSolve (P1 P2 : Addr) : PD := fun ds μ k => ∃ (n : Nat) (rows : List IL) (bds : IL), ds = [.int (n : Nat), sysD rows bds] ∧ SysOk n rows bds ∧ Sys5 n rows bds ∧ μ P1 = some .tab ∧ μ P2 = some .tab ∧ (∀ xs : IL, xs.length = rows.length → k (.tup [.str "none", itup xs]) μ) ∧
  ∀ (p : IL) (d : Int), Fine n rows p → k (.tup [.str "point", .tup [itup p, .int d]]) μ
abbrev sPS : Stmt := top 31
theorem sc_ps : FnScope ["book", "k", "kinds", "moves", "rows", "name", "take", "least", "most", "j"] ["book", "k"] (defScope sPS) := ⟨rfl, rfl, rfl, by decide +kernel, rfl, by decide +kernel, by decide +kernel⟩
def psRow (n : Nat) (mv : Mv) : IL := (List.range n).map fun j => at0 mv.take j - at0 mv.high j
def psUnit (n k : Nat) : IL := (List.range n).map fun j => if j = k then 1 else 0
def psRows (b : Bk) (k : Nat) : List IL := b.mvs.map (psRow b.n) ++ [psUnit b.n k]
def psBds (b : Bk) : IL := zero b.mvs.length ++ [1]
def pdPS : PD := fun ds μ kk => ∃ (b : Bk) (k : Nat), ds = [bkD b, .int (k : Nat)] ∧ BOk b ∧ k < b.n ∧ kk (sysD (psRows b k) (psBds b)) μ
abbrev sAdded : Stmt := top 32
theorem sc_added : FnScope ["one", "other", "k"] ["one", "other"] (defScope sAdded) := ⟨rfl, rfl, rfl, by decide +kernel, rfl, by decide +kernel, by decide +kernel⟩
def pdAdded : PD := fun ds μ k => ∃ xs ys : IL, ds = [itup xs, itup ys] ∧ xs.length ≤ ys.length ∧ xs.length ≤ 100 ∧ k (itup (lplus xs ys)) μ
abbrev sPart : Stmt := top 33
theorem sc_part : FnScope ["book", "kinds", "moves", "prices", "loop", "k", "found"] ["book"] (defScope sPart) := ⟨rfl, rfl, rfl, by decide +kernel, rfl, by decide +kernel, by decide +kernel⟩
def pdPart (P1 P2 : Addr) : PD := fun ds μ k => ∃ b : Bk, ds = [bkD b] ∧ BOk b ∧ μ P1 = some .tab ∧ μ P2 = some .tab ∧ ∀ (ps : IL) (l : D), POk b ps → Small ps → k (.tup [itup ps, l]) μ
theorem S_sum (n : Nat) (f : Nat → Int) : Mx.S n f = ((List.range n).map f).sum := by
  induction n with
  | zero => rfl
  | succ n ih => rw [List.range_succ, List.map_append, List.sum_append]; simp only [Mx.S]; rw [ih]; simp
theorem getD_map {α : Type} (l : List α) (f : α → IL) {j : Nat} {x : α} (h : l[j]? = some x) : (l.map f).getD j [] = f x := by
  rw [List.getD_eq_getElem?_getD, List.getElem?_map, h]; rfl
section
variable {b : Bk} {k : Nat}
theorem psRows_len : (psRows b k).length = b.mvs.length + 1 := by simp [psRows]
theorem psRow_at (n : Nat) (mv : Mv) {i : Nat} (h : i < n) : at0 (psRow n mv) i = at0 mv.take i - at0 mv.high i := at0_map h
theorem psRow_get {j : Nat} (h : j < b.mvs.length) : (psRows b k).getD j [] = psRow b.n (b.mvs.getD j default) := by
  have e : b.mvs[j]? = some (b.mvs.getD j default) := by rw [List.getD_eq_getElem?_getD, List.getElem?_eq_getElem h]; rfl
  unfold psRows
  rw [List.getD_eq_getElem?_getD, List.getElem?_append_left (by simpa using h), List.getElem?_map, e]
  rfl
theorem psRow_mem (B : BOk b) {r : IL} (h : r ∈ psRows b k) : r.length = b.n ∧ ∀ i, (at0 r i).natAbs ≤ 5 := by
  unfold psRows at h
  rcases List.mem_append.mp h with h | h
  · obtain ⟨mv, hm, rfl⟩ := List.mem_map.mp h
    refine ⟨by simp [psRow], fun i => ?_⟩
    by_cases hi : i < b.n
    · rw [psRow_at _ _ hi]
      obtain ⟨t1, t2⟩ := B.tk mv hm
      obtain ⟨g1, g2⟩ := B.hi mv hm
      have := t1.nn i hi
      have := t2 i hi
      have := g1.nn i hi
      have := g2 i hi
      omega
    · have : at0 (psRow b.n mv) i = 0 := by unfold at0 psRow; rw [List.getD_eq_getElem?_getD, List.getElem?_eq_none (by simp; omega)]; rfl
      rw [this]; decide
  · have : r = psUnit b.n k := by simpa using h
    subst this
    refine ⟨by simp [psUnit], fun i => ?_⟩
    by_cases hi : i < b.n
    · have e : at0 (psUnit b.n k) i = if i = k then 1 else 0 := at0_map hi
      rw [e]
      split <;> decide
    · have : at0 (psUnit b.n k) i = 0 := by unfold at0 psUnit; rw [List.getD_eq_getElem?_getD, List.getElem?_eq_none (by simp; omega)]; rfl
      rw [this]; decide
theorem psBds_at (j : Nat) : 0 ≤ at0 (psBds b) j ∧ at0 (psBds b) j ≤ 1 := by
  unfold at0 psBds
  rw [List.getD_eq_getElem?_getD]
  by_cases h : j < b.mvs.length
  · rw [List.getElem?_append_left (by simpa [zero] using h)]
    simp [zero, h]
  · by_cases h2 : j = b.mvs.length
    · subst h2
      rw [List.getElem?_append_right (by simp [zero])]
      simp [zero]
    · rw [List.getElem?_eq_none (by simp [zero]; omega)]
      decide
theorem mem_at0 {xs : IL} {x : Int} (h : x ∈ xs) : ∃ i, i < xs.length ∧ at0 xs i = x := by
  obtain ⟨i, hi⟩ := List.mem_iff_getElem?.mp h
  exact ⟨i, (List.getElem?_eq_some_iff.mp hi).1, by unfold at0; rw [List.getD_eq_getElem?_getD, hi]; rfl⟩
theorem ps_sysOk (B : BOk b) : SysOk b.n (psRows b k) (psBds b) where
  n1 := B.n1
  n20 := by have := B.n6; omega
  r20 := by have := B.m8; rw [psRows_len]; omega
  bl := by rw [psRows_len]; simp [psBds, zero]
  rl := fun r h => (psRow_mem B h).1
  rin := fun r h x hx => by
    obtain ⟨i, _, rfl⟩ := mem_at0 hx
    have := (psRow_mem B h).2 i
    omega
  bin := fun x hx => by
    obtain ⟨i, _, rfl⟩ := mem_at0 hx
    have := psBds_at (b := b) i
    omega
theorem ps_sys5 (B : BOk b) : Sys5 b.n (psRows b k) (psBds b) where
  n6 := B.n6
  r9 := by have := B.m8; rw [psRows_len]; omega
  row := fun j i => by
    unfold rowF
    by_cases h : j < (psRows b k).length
    · refine (psRow_mem (k := k) B ?_).2 i
      rw [List.getD_eq_getElem?_getD, List.getElem?_eq_getElem h]
      exact List.getElem_mem h
    · have e : (psRows b k).getD j [] = [] := by rw [List.getD_eq_getElem?_getD, List.getElem?_eq_none (by omega)]; rfl
      rw [e]
      show (at0 [] i).natAbs ≤ 5
      have : at0 [] i = 0 := rfl
      rw [this]; decide
  bd := fun j => by have := psBds_at (b := b) j; unfold bdF; omega
/-- prices of the kind k: every move's most is worth no more than its take -/
theorem fine_pok (B : BOk b) {p : IL} (h : Fine b.n (psRows b k) p) : POk b p := by
  refine ⟨⟨h.len, h.nn⟩, fun mv hm => ?_⟩
  obtain ⟨j, hj⟩ := List.mem_iff_getElem?.mp hm
  have hjl : j < b.mvs.length := (List.getElem?_eq_some_iff.mp hj).1
  have q := h.ok j (by rw [psRows_len]; omega)
  rw [S_sum] at q
  have ed : b.mvs.getD j default = mv := by rw [List.getD_eq_getElem?_getD, hj]; rfl
  have e : ((List.range b.n).map fun i => rowF (psRows b k) j i * at0 p i).sum = val mv.take p - val mv.high p := by
    unfold val
    rw [h.len, ← sum_sub]
    refine sum_congr fun i hi => ?_
    have hi := List.mem_range.mp hi
    unfold rowF
    rw [psRow_get hjl, ed, psRow_at _ _ hi, Int.sub_mul]
  rw [e] at q
  omega
theorem val_addp {n : Nat} (x p q : IL) (hp : p.length = n) (hq : q.length = n) : val x (lplus p q) = val x p + val x q := by
  unfold val
  rw [lplus_len, hp, hq, ← sum_add]
  refine sum_congr fun i hi => ?_
  have hi := List.mem_range.mp hi
  rw [lplus_at (by omega), Int.mul_add]
theorem POk.add {p q : IL} (a : POk b p) (c : POk b q) : POk b (lplus p q) := ⟨a.ok.plus c.ok, fun m hm => by
  rw [val_addp _ p q a.ok.len c.ok.len, val_addp _ p q a.ok.len c.ok.len]
  have := a.mv m hm
  have := c.mv m hm
  omega⟩
theorem POk.zero (b : Bk) : POk b (Mh.zero b.n) := ⟨Ok.zero _, fun m hm => by
  have e : ∀ x : IL, val x (Mh.zero b.n) = 0 := fun x => by
    unfold val
    have : ((List.range (Mh.zero b.n).length).map fun k => at0 x k * at0 (Mh.zero b.n) k) = (List.range (Mh.zero b.n).length).map fun _ => 0 := List.map_congr_left fun k _ => by rw [zero_at, Int.mul_zero]
    rw [this]
    generalize List.range (Mh.zero b.n).length = l
    induction l with
    | nil => rfl
    | cons a l ih => simp only [List.map_cons, List.sum_cons, ih]; rfl
  rw [e, e]
  exact Int.le_refl _⟩
end
section
variable {P : Program} {w : World} {K : PySem.W.Frag} {mg : Str → Option Value} {base : Heap} {f : Addr} {fd : FuncData}
theorem ok_solve {P1 P2 : Addr} (F : FunD K "solve" "solve" (defArgs sSolve) (defBody sSolve) (defScope sSolve) [] [] f fd) (B : Bt mg) (cC : Cal P w K mg base "check_system" 6 (pdCheck P1 P2)) (cO : Cal P w K mg base "optimum" 3 pdOpt) : FnOk P w K mg base CX0 7 f fd ["width", "system"] (dsp K (pdSolve P1 P2)) := by
  refine fn_dl F sc_solve (fun ds μ k h => by obtain ⟨a, b, c, rfl, _⟩ := h; rfl) fun cdv A outer s0 H E hr ds μ k h => ?_
  obtain ⟨n, rows, bds, rfl, ok, S5, hP1, hP2, hk1, hk2⟩ := h
  have nd := sc_solve.nd
  have n6 := S5.n6
  have ez : (.tup (List.replicate ((n : Nat) : Int).toNat [D.int 0]).flatten : D) = itup (zero n) := by rw [← zeroD, Int.toNat_natCast]
  refine sv_cons (s1_expr (ev_callC cC (hr.mono (by omega)) ((av_cons (ev_var 0 rfl) (av_cons (ev_var 1 rfl) av_nil)).is ⟨n, rows, bds, rfl, ok, hP1, hP2, ?_⟩)))
  refine sv_cons (s1_set 2 nd (ev_callC cO (hr.mono (by omega)) ((av_cons (ev_var 0 rfl) (av_cons (ev_var 1 rfl) (av_cons (ev_bin (ev_tup (av_cons ev_int av_nil) (by simp) ⟨rfl, rfl⟩) (ev_var 0 rfl) (rd_repT rfl (by simp) (by simp) (by omega) (by omega) ⟨ez, rfl⟩)) av_nil))).is ⟨n, rows, bds, rfl, ok, S5, fun xs hl => ?_, fun p d y fine => ?_⟩)))
  · exact sv_cons (s1_ifB (c1 := true) (tv_cmp (ev_ix (ev_var 2 rfl) ev_int (rd_ixT rfl rfl ⟨rfl, rfl⟩)) ev_str (rd_eqS ⟨rfl, rfl⟩) ⟨rfl, rfl⟩) (fun _ => sv_one (s1_ret ((ev_var 2 rfl).is (hk1 xs hl)))) fun h => by cases h)
  · refine sv_cons (s1_ifB (c1 := false) (tv_cmp (ev_ix (ev_var 2 rfl) ev_int (rd_ixT rfl rfl ⟨rfl, rfl⟩)) ev_str (rd_eqS ⟨rfl, rfl⟩) ⟨by decide, rfl⟩) (fun h => by cases h) fun _ => sv_nil ?_)
    exact sv_one (s1_ret (ev_tup (av_cons ev_str (av_cons (ev_ix (ev_var 2 rfl) ev_int (rd_ixT rfl rfl ⟨rfl, rfl⟩)) av_nil)) (by simp) (hk2 p d fine)))
theorem ok_added (F : FunD K "added" "added" (defArgs sAdded) (defBody sAdded) (defScope sAdded) [] [] f fd) (B : Bt mg) : FnOk P w K mg base CX0 1 f fd ["one", "other"] (dsp K pdAdded) := by
  refine fn_dl F sc_added (fun ds μ k h => by obtain ⟨xs, ys, rfl, _⟩ := h; rfl) fun cdv A outer s H E hr ds μ k h => ?_
  obtain ⟨xs, ys, rfl, h1, h2, hk⟩ := h
  have nd := sc_added.nd
  refine sv_one (s1_ret (ev_callT0 (T := "tuple") (av_cons0 ((ev_lcP (own := [("k", 2)]) (k := Is (.lst ((lplus xs ys).map .int)) μ) 2
    (iv_range B.range (ev_callB (av_cons (ev_var 0 rfl) av_nil) (cd_len (.inl rfl) ⟨rfl, rfl⟩) B.len PySem.boot_len) (by simp; omega) (by omega)) (by simp; omega) (fun _ _ => true) (fun i _ => .int (xs.getD i 0 + ys.getD i 0)) (fun _ _ => trivial)
    (fun i d μ' s H C cl fp hd _ => ts_nil ⟨rfl, rfl⟩) (fun i d μ' s H C cl fp hd _ _ => ?_) (.inl ⟨?_, rfl⟩) sc_added).is (av_nil0 (cd_tuple (.inr .l) hk)))) B.tuple bt_tuple))
  · obtain ⟨hi, rfl⟩ := rg_lt hd
    simp at hi
    exact ev_bin (ev_ix (ev_var 0 rfl) (ev_var 2 rfl) (rd_ixT rfl (it_at hi) ⟨rfl, rfl⟩)) (ev_ix (ev_var 1 rfl) (ev_var 2 rfl) (rd_ixT rfl (it_at (by omega)) ⟨rfl, rfl⟩)) (rd_add ⟨rfl, rfl⟩)
  · simp [kept_rg, lplus, at0]
theorem ok_ps (F : FunD K "price_system" "price_system" (defArgs sPS) (defBody sPS) (defScope sPS) [] [] f fd) (B : Bt mg) : FnOk P w K mg base CX0 1 f fd ["book", "k"] (dsp K pdPS) := by
  refine fn_dl F sc_ps (fun ds μ k h => by obtain ⟨xs, ys, rfl, _⟩ := h; rfl) fun cdv A outer s H E hr ds μ kk h => ?_
  obtain ⟨b, k, rfl, BO, hkn, hk⟩ := h
  have nd := sc_ps.nd
  have n6 := BO.n6
  have m8 := BO.m8
  refine sv_cons (s1_asg ((ev_var 0 rfl).is (gv_tup rfl (gvs_cons (gv_name 2 nd (gvs_cons (gv_name 3 nd (gvs_nil ?_))))))))
  refine sv_cons (s1_set 4 nd (ev_lst av_nil (by simp) (.inr fun p np => ?_)))
  refine sv_cons (s1_for PassesOwn.never rfl (iv_tup (ev_var 3 rfl)) (fun i δ' μ' => (∃ z1 z2 z3 z4, δ' = [some (bkD b), some (.int (k : Nat)), some (.tup (b.names.map .str)), some (.tup (b.mvs.map mvD)), some (.ref p), z1, z2, z3, z4, none]) ∧ μ' = μ.put p (.lst (((b.mvs.take i).map (psRow b.n)).map itup)))
    ⟨⟨none, none, none, none, rfl⟩, rfl⟩ (fun _ _ _ _ => trivial) (fun i d δ' μ' hd hI => ?_) (fun δ' μ' hI => ?_))
  · obtain ⟨⟨z1, z2, z3, z4, rfl⟩, rfl⟩ := hI
    rw [List.getElem?_map] at hd
    obtain ⟨mv, hmv, rfl⟩ : ∃ e, b.mvs[i]? = some e ∧ mvD e = d := by
      cases q : b.mvs[i]? with
      | none => rw [q] at hd; cases hd
      | some e => rw [q] at hd; exact ⟨e, rfl, Option.some.inj hd⟩
    have hm := List.mem_of_getElem? hmv
    have t1 := (BO.tk mv hm).1.len
    have t2 := (BO.hi mv hm).1.len
    have hil : i < b.mvs.length := (List.getElem?_eq_some_iff.mp hmv).1
    refine gv_tup rfl (gvs_cons (gv_name 5 nd (gvs_cons (gv_name 6 nd (gvs_cons (gv_name 7 nd (gvs_cons (gv_name 8 nd (gvs_nil ?_)))))))))
    refine sv_one (s1_expr (ev_app (p := p) (ds := (((b.mvs.take i).map (psRow b.n)).map itup)) (d := itup (psRow b.n mv)) (ev_var 4 rfl) (ev_callT0 (T := "tuple") (av_cons0 ((ev_lcP (own := [("j", 9)]) (k := Is (.lst ((psRow b.n mv).map .int)) _) 9
      (iv_range B.range (ev_callB (av_cons (ev_var 2 rfl) av_nil) (cd_len (.inl rfl) ⟨rfl, rfl⟩) B.len PySem.boot_len) (by simp; unfold Bk.n at n6; omega) (by omega)) (by simp; unfold Bk.n at n6; omega) (fun _ _ => true) (fun i _ => .int (at0 mv.take i - at0 mv.high i)) (fun _ _ => trivial)
      (fun i d μ' s H C cl fp hd _ => ts_nil ⟨rfl, rfl⟩) (fun i d μ' s H C cl fp hd _ _ => ?_) (.inl ⟨?_, rfl⟩) sc_ps).is (av_nil0 (cd_tuple (.inr .l) ⟨rfl, rfl⟩)))) B.tuple bt_tuple) Mem.put_same Mem.put_same (by simp; omega) ?_))
    · obtain ⟨hi, rfl⟩ := rg_lt hd
      have hi : i < b.n := by simpa [Bk.n] using hi
      exact ev_bin (ev_ix (ev_var 6 rfl) (ev_var 9 rfl) (rd_ixT rfl (it_at (by omega)) ⟨rfl, rfl⟩)) (ev_ix (ev_var 8 rfl) (ev_var 9 rfl) (rd_ixT rfl (it_at (by omega)) ⟨rfl, rfl⟩)) (rd_sub ⟨rfl, rfl⟩)
    · rw [kept_rg]; simp [psRow, Bk.n]
    · refine ⟨⟨_, _, _, _, rfl⟩, ?_⟩
      rw [Mem.put_put]
      congr 2
      rw [List.take_add_one, hmv]
      simp
  · obtain ⟨⟨z1, z2, z3, z4, rfl⟩, rfl⟩ := hI
    rw [List.length_map, List.take_length]
    refine sv_cons (s1_expr (ev_app (p := p) (ds := ((b.mvs.map (psRow b.n)).map itup)) (d := itup (psUnit b.n k)) (ev_var 4 rfl) (ev_callT0 (T := "tuple") (av_cons0 ((ev_lcP (own := [("j", 9)]) (k := Is (.lst ((psUnit b.n k).map .int)) _) 9
      (iv_range B.range (ev_callB (av_cons (ev_var 2 rfl) av_nil) (cd_len (.inl rfl) ⟨rfl, rfl⟩) B.len PySem.boot_len) (by simp; unfold Bk.n at n6; omega) (by omega)) (by simp; unfold Bk.n at n6; omega) (fun _ _ => true) (fun i _ => .int (if decide (((i : Nat) : Int) = (k : Int)) then 1 else 0)) (fun _ _ => trivial)
      (fun i d μ' s H C cl fp hd _ => ts_nil ⟨rfl, rfl⟩) (fun i d μ' s H C cl fp hd _ _ => ?_) (.inl ⟨?_, rfl⟩) sc_ps).is (av_nil0 (cd_tuple (.inr .l) ⟨rfl, rfl⟩)))) B.tuple bt_tuple) Mem.put_same Mem.put_same (by simp; omega) ?_))
    · obtain ⟨hi, rfl⟩ := rg_lt hd
      exact ev_callT (T := "int") (av_cons (ev_cmp (ev_var 9 rfl) (ev_var 1 rfl) (rd_eq ⟨rfl, rfl⟩)) av_nil) (cd_intB ⟨rfl, rfl⟩) B.int bt_int
    · rw [kept_rg]
      simp only [psUnit, List.map_map, Bk.n, List.length_map, Int.toNat_natCast]
      congr 1
      refine List.map_congr_left fun i _ => ?_
      show D.int _ = D.int _
      by_cases h : i = k
      · simp [h]
      · have : ¬ (i : Int) = (k : Int) := by omega
        simp [h, this]
    · rw [Mem.put_put]
      have ez : (.tup (List.replicate ((b.mvs.map mvD).length : Int).toNat [D.int 0]).flatten : D) = itup (zero b.mvs.length) := by rw [← zeroD]; simp
      refine sv_one (s1_ret (ev_drop (ev_tup0 (av_cons0 (ev_callT0 (T := "tuple") (av_cons0 ((ev_var 4 rfl).is (av_nil0 (cd_tuple (.inr (.m Mem.put_same)) (av_cons0 ((ev_bin (ev_bin (ev_tup (av_cons ev_int av_nil) (by simp) ⟨rfl, rfl⟩) (ev_callB (av_cons (ev_var 3 rfl) av_nil) (cd_len (.inl rfl) ⟨rfl, rfl⟩) B.len PySem.boot_len) (rd_repT rfl (by simp) (by simp) (by omega) (by simp; omega) ⟨ez, rfl⟩)) (ev_tup (av_cons ev_int av_nil) (by simp) ⟨rfl, rfl⟩) (rd_catT (k := Is (itup (psBds b)) _) rfl (by simp [zero]; omega) ⟨by rw [itup_app]; rfl, rfl⟩)).is (av_nil0 ⟨by simp, μ, sub_put np, ?_⟩))))))) B.tuple bt_tuple)))))
      have e : sysD (psRows b k) (psBds b) = .tup [.tup ((b.mvs.map (psRow b.n)).map itup ++ [itup (psUnit b.n k)]), itup (psBds b)] := by
        unfold sysD psRows
        rw [List.map_append]
        rfl
      rw [e] at hk
      exact hk
end
end Mw
set_option Elab.async false
set_option linter.all false
set_option maxRecDepth 100000
set_option maxHeartbeats 4000000
namespace Mw
open PySem PySem.Spec PyProof.Rows L2 DL Mh
section
variable {P : Program} {w : World} {K : PySem.W.Frag} {mg : Str → Option Value} {base : Heap} {f : Addr} {fd : FuncData}
theorem ok_part {P1 P2 : Addr} (F : FunD K "parting" "parting" (defArgs sPart) (defBody sPart) (defScope sPart) [] [] f fd) (B : Bt mg) (cS : Cal P w K mg base "solve" 7 (pdSolve P1 P2)) (cP : Cal P w K mg base "price_system" 1 pdPS) (cA : Cal P w K mg base "added" 1 pdAdded) : FnOk P w K mg base CX0 8 f fd ["book"] (dsp K (pdPart P1 P2)) := by
  refine fn_dl F sc_part (fun ds μ k h => by obtain ⟨xs, rfl, _⟩ := h; rfl) fun cdv A outer s H E hr ds μ kk h => ?_
  obtain ⟨b, rfl, BO, hP1, hP2, hk⟩ := h
  have nd := sc_part.nd
  have n6 := BO.n6
  have m8 := BO.m8
  have ez1 : (.tup (List.replicate ((b.names.map D.str).length : Int).toNat [D.int 0]).flatten : D) = itup (zero b.n) := by rw [← zeroD]; simp [Bk.n]
  have ez2 : (.tup (List.replicate ((b.mvs.map mvD).length : Int).toNat [D.int 0]).flatten : D) = itup (zero b.mvs.length) := by rw [← zeroD]; simp
  refine sv_cons (s1_asg ((ev_var 0 rfl).is (gv_tup rfl (gvs_cons (gv_name 1 nd (gvs_cons (gv_name 2 nd (gvs_nil ?_))))))))
  refine sv_cons (s1_set 3 nd ((ev_bin (ev_tup (av_cons ev_int av_nil) (by simp) ⟨rfl, rfl⟩) (ev_callB (av_cons (ev_var 1 rfl) av_nil) (cd_len (.inl rfl) ⟨rfl, rfl⟩) B.len PySem.boot_len) (rd_repT (k := Is (itup (zero b.n)) μ) rfl (by simp) (by simp) (by omega) (by simp; unfold Bk.n at n6; omega) ⟨ez1, rfl⟩)).is ?_))
  refine sv_cons (s1_set 4 nd ((ev_bin (ev_tup (av_cons ev_int av_nil) (by simp) ⟨rfl, rfl⟩) (ev_callB (av_cons (ev_var 2 rfl) av_nil) (cd_len (.inl rfl) ⟨rfl, rfl⟩) B.len PySem.boot_len) (rd_repT (k := Is (itup (zero b.mvs.length)) μ) rfl (by simp) (by simp) (by omega) (by simp; omega) ⟨ez2, rfl⟩)).is ?_))
  refine sv_cons (s1_forR (n := (b.n : Int)) 5 PassesOwn.never rfl nd (iv_range B.range (ev_callB (av_cons (ev_var 1 rfl) av_nil) (cd_len (.inl rfl) ⟨by simp [Bk.n], rfl⟩) B.len PySem.boot_len) (by omega) (by omega))
    (fun i δ' μ' => μ' = μ ∧ ∃ (p l : IL) (z1 z2 : Option D), δ' = [some (bkD b), some (.tup (b.names.map .str)), some (.tup (b.mvs.map mvD)), some (itup p), some (itup l), z1, z2] ∧ POk b p ∧ (∀ j, j < b.n → at0 p j ≤ i * 2 ^ 30) ∧ l.length = b.mvs.length)
    ⟨rfl, zero b.n, zero b.mvs.length, none, none, rfl, Mw.POk.zero b, fun j _ => by rw [zero_at]; omega, zero_len⟩ (fun i δ' μ' hi hI => ?_) (fun δ' μ' hI => ?_))
  · obtain ⟨rfl, p, l, z1, z2, rfl, hp, hsm, hl⟩ := hI
    have hin : i < b.n := by omega
    refine sv_cons (s1_set 6 nd (ev_callC cS (hr.mono (by omega)) (av_cons0 ((ev_callB (av_cons (ev_var 1 rfl) av_nil) (cd_len (k := Is (.int (b.n : Nat)) _) (.inl rfl) ⟨by simp [Bk.n], rfl⟩) B.len PySem.boot_len).is (av_cons0 (ev_callC cP (hr.mono (by omega)) ((av_cons (ev_var 0 rfl) (av_cons (ev_var 5 rfl) av_nil)).is ⟨b, i, rfl, BO, hin, ?_⟩)))))))
    refine av_nil0 ⟨b.n, psRows b i, psBds b, rfl, ps_sysOk BO, ps_sys5 BO, hP1, hP2, fun xs hxs => ?_, fun q d fine => ?_⟩
    · refine sv_one (s1_ifB (c1 := false) (tv_cmp (ev_ix (ev_var 6 rfl) ev_int (rd_ixT rfl rfl ⟨rfl, rfl⟩)) ev_str (rd_eqS ⟨rfl, rfl⟩) ⟨by decide, rfl⟩) (fun h => by cases h) fun _ => sv_one ?_)
      obtain ⟨ys, y, rfl⟩ : ∃ ys y, xs = ys ++ [y] := by
        have hne : xs ≠ [] := fun e => by rw [e, psRows_len] at hxs; simp at hxs
        exact ⟨xs.dropLast, xs.getLast hne, (List.dropLast_concat_getLast hne).symm⟩
      have hyl : ys.length = b.mvs.length := by rw [psRows_len, List.length_append, List.length_singleton] at hxs; omega
      refine s1_set 4 nd (ev_callC cA (hr.mono (by omega)) ((av_cons (ev_var 4 rfl) (av_cons (ev_cutl ys y (ev_ix (ev_var 6 rfl) ev_int (rd_ixT rfl rfl ⟨rfl, rfl⟩)) (ev_un ev_int (ud_neg ⟨rfl, rfl⟩))) av_nil)).is ⟨l, ys, rfl, by omega, by omega, ?_⟩))
      refine ⟨rfl, p, lplus l ys, _, _, rfl, hp, fun j hj => ?_, by rw [lplus_len, hl]⟩
      have := hsm j hj
      omega
    · refine sv_one (s1_ifB (c1 := true) (tv_cmp (ev_ix (ev_var 6 rfl) ev_int (rd_ixT rfl rfl ⟨rfl, rfl⟩)) ev_str (rd_eqS ⟨rfl, rfl⟩) ⟨rfl, rfl⟩) (fun _ => sv_one ?_) fun h => by cases h)
      have hq := fine_pok BO fine
      refine s1_set 3 nd (ev_callC cA (hr.mono (by omega)) ((av_cons (ev_var 3 rfl) (av_cons (ev_ix (ev_ix (ev_var 6 rfl) ev_int (rd_ixT rfl rfl ⟨rfl, rfl⟩)) ev_int (rd_ixT rfl rfl ⟨rfl, rfl⟩)) av_nil)).is ⟨p, q, rfl, by rw [hp.ok.len, hq.ok.len]; exact Nat.le_refl _, by rw [hp.ok.len]; omega, ?_⟩))
      refine ⟨rfl, lplus p q, l, _, _, rfl, Mw.POk.add hp hq, fun j hj => ?_, hl⟩
      rw [lplus_at (by rw [hp.ok.len]; exact hj)]
      have h1 := hsm j hj
      have h2 := fine.sm j hj
      omega
  · obtain ⟨rfl, p, l, z1, z2, rfl, hp, hsm, hl⟩ := hI
    rw [Int.toNat_natCast] at hsm
    refine sv_one (s1_ret (ev_tup (av_cons (ev_var 3 rfl) (av_cons (ev_var 4 rfl) av_nil)) (by simp) (hk p _ hp fun i hi => ?_)))
    rw [hp.ok.len] at hi
    have h1 := hsm i hi
    have h2 := hp.ok.nn i hi
    omega
end
end Mw
set_option Elab.async false
set_option linter.all false
set_option maxRecDepth 100000
set_option maxHeartbeats 4000000
namespace Mw
open PySem PySem.Spec PyProof.Rows L2 DL Mh
/-! ### the law's draws -/
abbrev sMix : Stmt := top 38
theorem sc_mix : FnScope ["_law_first", "_law_second", "_law_value_here"] ["_law_first", "_law_second"] (defScope sMix) := ⟨rfl, rfl, rfl, by decide +kernel, rfl, by decide +kernel, by decide +kernel⟩
def pdMix : PD := fun ds μ k => ∃ a b : Int, ds = [.int a, .int b] ∧ ∀ v : Int, k (.int v) μ
abbrev sNbs : Stmt := top 39
theorem sc_nbs : FnScope ["_law_script", "_law_count", "_law_found", "_law_total", "_law_cell", "_law_number", "_law_k"] ["_law_script", "_law_count"] (defScope sNbs) := ⟨rfl, rfl, rfl, by decide +kernel, rfl, by decide +kernel, by decide +kernel⟩
/-- the drawn row -/
structure DrOk (xs : IL) : Prop where
  len : xs.length = 420
def pdNbs : PD := fun ds μ k => ∃ ns : List Int, ds = [.scr ns, .int 420] ∧ ns.length ≤ 63 ∧ ∀ xs, DrOk xs → k (.lst (xs.map .int)) μ
abbrev sDraws : Stmt := top 40
theorem sc_draws : FnScope ["_law_script", "_law_count"] ["_law_script", "_law_count"] (defScope sDraws) := ⟨rfl, rfl, rfl, by decide +kernel, rfl, by decide +kernel, by decide +kernel⟩
def drw (xs : IL) (a : Int) : MO := .dK [(Sum.inr "at", .int a), (Sum.inr "row", .lst (xs.map .int))]
def pdDraws : PD := fun ds μ k => ∃ ns : List Int, ds = [.scr ns, .int 420] ∧ ns.length ≤ 63 ∧ ∀ xs q, DrOk xs → μ q = none → k (.ref q) (μ.put q (drw xs 0))
abbrev sTake : Stmt := top 41
theorem sc_take : FnScope ["_law_draws_here", "_law_bound", "_law_row", "_law_at", "_law_value_here"] ["_law_draws_here", "_law_bound"] (defScope sTake) := ⟨rfl, rfl, rfl, by decide +kernel, rfl, by decide +kernel, by decide +kernel⟩
def pdTake : PD := fun ds μ k => ∃ (q : Addr) (bd : Int) (xs : IL) (a : Int), ds = [.ref q, .int bd] ∧ μ q = some (drw xs a) ∧ DrOk xs ∧ 0 < bd ∧ ∀ (v a' : Int), 0 ≤ v → v < bd → k (.int v) (μ.put q (drw xs a'))
section
variable {P : Program} {w : World} {K : PySem.W.Frag} {mg : Str → Option Value} {base : Heap} {f : Addr} {fd : FuncData}
theorem ok_mix (F : FunD K "_law_mix" "_law_mix" (defArgs sMix) (defBody sMix) (defScope sMix) [] [] f fd) (B : Bt mg) : FnOk P w K mg base CX0 1 f fd ["_law_first", "_law_second"] (dsp K pdMix) := by
  refine fn_dl F sc_mix (fun ds μ k h => by obtain ⟨xs, ys, rfl, _⟩ := h; rfl) fun cdv A outer s H E hr ds μ k h => ?_
  obtain ⟨a, b, rfl, hk⟩ := h
  have nd := sc_mix.nd
  refine sv_cons (s1_set 2 nd ((ev_bin (ev_callT (T := "int") (av_cons (ev_bin (ev_bin (ev_bin (ev_var 0 rfl) ev_int (rd_mul (.inr (by omega)) ⟨rfl, rfl⟩)) (ev_bin (ev_var 1 rfl) ev_int (rd_mul (.inr (by omega)) ⟨rfl, rfl⟩)) (rd_add ⟨rfl, rfl⟩)) ev_int (rd_add ⟨rfl, rfl⟩)) av_nil) (cd_int ⟨rfl, rfl⟩) B.int bt_int) ev_int (rd_mod (by omega) ⟨rfl, rfl⟩)).is ?_))
  exact sv_one (s1_ret (ev_bin (ev_callT (T := "int") (av_cons (ev_bin (ev_bin (ev_bin (ev_var 2 rfl) ev_int (rd_mul (.inr (by omega)) ⟨rfl, rfl⟩)) (ev_bin (ev_var 1 rfl) ev_int (rd_mul (.inr (by omega)) ⟨rfl, rfl⟩)) (rd_add ⟨rfl, rfl⟩)) ev_int (rd_add ⟨rfl, rfl⟩)) av_nil) (cd_int ⟨rfl, rfl⟩) B.int bt_int) ev_int (rd_mod (by omega) (hk _))))
theorem ok_nbs (F : FunD K "_law_numbers" "_law_numbers" (defArgs sNbs) (defBody sNbs) (defScope sNbs) [] [] f fd) (B : Bt mg) (cM : Cal P w K mg base "_law_mix" 1 pdMix) : FnOk P w K mg base CX0 2 f fd ["_law_script", "_law_count"] (dsp K pdNbs) := by
  refine fn_dl F sc_nbs (fun ds μ k h => by obtain ⟨xs, rfl, _⟩ := h; rfl) fun cdv A outer s H E hr ds μ k h => ?_
  obtain ⟨ns, rfl, hl, hk⟩ := h
  have nd := sc_nbs.nd
  refine sv_cons (s1_set 2 nd (ev_lst av_nil (by simp) (.inr fun p np => ?_)))
  refine sv_cons (s1_set 3 nd ((ev_bin (ev_callB (av_cons (ev_var 0 rfl) av_nil) (cd_len (.inr .s) ⟨rfl, rfl⟩) B.len PySem.boot_len) ev_int (rd_add ⟨rfl, rfl⟩)).is ?_))
  -- what stands between the turns
  let J : Nat → DS → Mem → Prop := fun m δ' μ' => ∃ (xs : IL) (t : Int) (z4 z5 z6 : Option D), δ' = [some (.scr ns), some (.int 420), some (.ref p), some (.int t), z4, z5, z6] ∧ μ' = μ.put p (.lst (xs.map .int)) ∧ xs.length ≤ m
  refine sv_cons (s1_for PassesOwn.never rfl (iv_lst (ds := (ns.take 63).map .int) (μ1 := μ.put p (.lst [])) (ev_slice (l := none) (u := some ((63 : Nat) : Int)) (ev_var 0 rfl) .none (.some ev_int) (sd_lst .s (.inl ⟨by rw [cut_none], rfl⟩)))) (fun i => J (60 * i)) ⟨[], _, none, none, none, rfl, rfl, Nat.zero_le _⟩ (fun _ _ _ _ => trivial) (fun i d δ' μ' hd hI => ?_) (fun δ' μ' hI => ?_))
  · obtain ⟨xs, t, z4, z5, z6, rfl, rfl, hx⟩ := hI
    have hil : i < 63 := by
      have := (List.getElem?_eq_some_iff.mp hd).1
      rw [List.length_map, List.length_take] at this
      omega
    rw [List.getElem?_map] at hd
    obtain ⟨x, hx', rfl⟩ : ∃ x, (ns.take 63)[i]? = some x ∧ D.int x = d := by
      cases q : (ns.take 63)[i]? with
      | none => rw [q] at hd; cases hd
      | some e => rw [q] at hd; exact ⟨e, rfl, Option.some.inj hd⟩
    refine gv_name 4 nd ?_
    refine sv_cons (s1_set 5 nd ((ev_callB (id := "abs") (av_cons (ev_var 4 rfl) av_nil) (cd_abs (k := Is (.int (ab x)) _) ⟨rfl, rfl⟩) B.abs (by decide +kernel)).is ?_))
    refine sv_cons (s1_set 3 nd (ev_callC cM (hr.mono (by omega)) ((av_cons (ev_var 3 rfl) (av_cons (ev_bin (ev_callT (T := "int") (av_cons (ev_var 5 rfl) av_nil) (cd_int ⟨rfl, rfl⟩) B.int bt_int) ev_int (rd_mod (by omega) ⟨rfl, rfl⟩)) av_nil)).is ⟨_, _, rfl, fun t2 => ?_⟩)))
    refine sv_one (s1_if (tv_cmp (ev_var 5 rfl) (ev_bin ev_int ev_int (rd_pow ⟨by omega, by omega, by decide⟩ ⟨rfl, rfl⟩)) (rd_ge ⟨rfl, rfl⟩) ⟨fun _ => ?_, fun _ => ?_⟩))
    · refine sv_one (s1_forR (n := 60) 6 PassesOwn.never rfl nd (iv_range B.range ev_int (by omega) (by omega)) (fun j δ' μ' => ∃ (xs : IL) (t n : Int) (z4 z6 : Option D), δ' = [some (.scr ns), some (.int 420), some (.ref p), some (.int t), z4, some (.int n), z6] ∧ μ' = μ.put p (.lst (xs.map .int)) ∧ xs.length ≤ 60 * i + j)
        ⟨xs, t2, ab x, _, _, rfl, rfl, by omega⟩ (fun j δ' μ' hj hI => ?_) (fun δ' μ' hI => ?_))
      · obtain ⟨ys, t3, n3, y4, y6, rfl, rfl, hy⟩ := hI
        refine sv_one (s1_if (tv_cmp (ev_var 5 rfl) ev_int (rd_gt ⟨rfl, rfl⟩) ⟨fun _ => ?_, fun _ => sv_nil ⟨ys, t3, n3, _, _, rfl, rfl, by omega⟩⟩))
        refine sv_cons (s1_expr (ev_app (p := p) (ds := ys.map .int) (ev_var 2 rfl) (ev_bin (ev_callT (T := "int") (av_cons (ev_var 5 rfl) av_nil) (cd_int ⟨rfl, rfl⟩) B.int bt_int) ev_int (rd_mod (by omega) ⟨rfl, rfl⟩)) Mem.put_same Mem.put_same (by rw [List.length_map]; omega) ?_))
        refine sv_one (s1_set 5 nd ((ev_bin (ev_var 5 rfl) ev_int (rd_div ⟨by omega, by omega⟩ ⟨rfl, rfl⟩)).is ⟨ys ++ [n3 % 1000], t3, _, _, _, rfl, ?_, by rw [List.length_append, List.length_singleton]; omega⟩))
        rw [Mem.put_put, List.map_append]
        rfl
      · obtain ⟨ys, t3, n3, y4, y6, rfl, rfl, hy⟩ := hI
        exact ⟨ys, t3, _, _, _, rfl, rfl, by have : (60 : Int).toNat = 60 := rfl; omega⟩
    · refine sv_one (s1_forR (n := 6) 6 PassesOwn.never rfl nd (iv_range B.range ev_int (by omega) (by omega)) (fun j δ' μ' => ∃ (xs : IL) (t n : Int) (z4 z6 : Option D), δ' = [some (.scr ns), some (.int 420), some (.ref p), some (.int t), z4, some (.int n), z6] ∧ μ' = μ.put p (.lst (xs.map .int)) ∧ xs.length ≤ 60 * i + j)
        ⟨xs, t2, ab x, _, _, rfl, rfl, by omega⟩ (fun j δ' μ' hj hI => ?_) (fun δ' μ' hI => ?_))
      · obtain ⟨ys, t3, n3, y4, y6, rfl, rfl, hy⟩ := hI
        refine sv_one (s1_expr (ev_app0 (p := p) (ev_var 2 rfl) Mem.put_same (ev_binN (ev_callT0 (T := "int") (av_cons0 (ev_callC cM (hr.mono (by omega)) ((av_cons (ev_var 5 rfl) (av_cons (ev_bin (ev_var 6 rfl) ev_int (rd_add ⟨rfl, rfl⟩)) av_nil)).is ⟨_, _, rfl, fun v => av_nil0 (cd_int (ev_int.is (rd_mod (by omega) ⟨ys.map .int, Mem.put_same, by rw [List.length_map]; omega, ?_⟩)))⟩))) B.int bt_int))))
        exact ⟨ys ++ [v % 1000], t3, n3, _, _, rfl, by rw [Mem.put_put, List.map_append]; rfl, by rw [List.length_append, List.length_singleton]; omega⟩
      · obtain ⟨ys, t3, n3, y4, y6, rfl, rfl, hy⟩ := hI
        exact ⟨ys, t3, _, _, _, rfl, rfl, by have : (6 : Int).toNat = 6 := rfl; omega⟩
  · obtain ⟨xs, t, z4, z5, z6, rfl, rfl, hx⟩ := hI
    have hx2 : xs.length ≤ 3780 := by
      rw [List.length_map, List.length_take] at hx
      omega
    refine sv_cons (s1_forR (n := 420) 6 PassesOwn.never rfl nd (iv_range B.range (ev_var 1 rfl) (by omega) (by omega)) (fun j δ' μ' => ∃ (xs : IL) (t : Int) (z4 z5 z6 : Option D), δ' = [some (.scr ns), some (.int 420), some (.ref p), some (.int t), z4, z5, z6] ∧ μ' = μ.put p (.lst (xs.map .int)) ∧ xs.length ≤ 4200 ∧ min j 420 ≤ xs.length)
      ⟨xs, t, _, _, _, rfl, rfl, by omega, by omega⟩ (fun j δ' μ' hj hI => ?_) (fun δ' μ' hI => ?_))
    · obtain ⟨ys, t3, y4, y5, y6, rfl, rfl, hy, hy2⟩ := hI
      refine sv_one (s1_ifB (c1 := decide (((ys.map D.int).length : Int) < 420)) (tv_cmp (ev_callB (av_cons (ev_var 2 rfl) av_nil) (cd_len (.inr (.m Mem.put_same)) ⟨rfl, rfl⟩) B.len PySem.boot_len) (ev_var 1 rfl) (rd_lt ⟨rfl, rfl⟩) ⟨rfl, rfl⟩) (fun h => ?_) (fun h => sv_nil ⟨ys, t3, _, _, _, rfl, rfl, hy, ?_⟩))
      · have hlt : ys.length < 420 := by have := of_decide_eq_true h; rw [List.length_map] at this; omega
        refine sv_cons (s1_set 3 nd (ev_callC cM (hr.mono (by omega)) ((av_cons (ev_var 3 rfl) (av_cons (ev_bin (ev_var 6 rfl) ev_int (rd_add ⟨rfl, rfl⟩)) av_nil)).is ⟨_, _, rfl, fun t2 => ?_⟩)))
        refine sv_one (s1_expr (ev_app (p := p) (ds := ys.map .int) (ev_var 2 rfl) (ev_bin (ev_callT (T := "int") (av_cons (ev_var 3 rfl) av_nil) (cd_int ⟨rfl, rfl⟩) B.int bt_int) ev_int (rd_mod (by omega) ⟨rfl, rfl⟩)) Mem.put_same Mem.put_same (by rw [List.length_map]; omega) ?_))
        exact ⟨ys ++ [t2 % 1000], t2, _, _, _, rfl, by rw [Mem.put_put, List.map_append]; rfl, by rw [List.length_append, List.length_singleton]; omega, by rw [List.length_append, List.length_singleton]; omega⟩
      · have hge : ¬ (((ys.map D.int).length : Int) < 420) := of_decide_eq_false h
        rw [List.length_map] at hge
        omega
    · obtain ⟨ys, t3, y4, y5, y6, rfl, rfl, hy, hy2⟩ := hI
      have h420 : 420 ≤ ys.length := by have : (420 : Int).toNat = 420 := rfl; omega
      refine sv_one (s1_ret (ev_drop ((ev_slice (l := none) (u := some ((420 : Nat) : Int)) (k := Is (.lst ((ys.take 420).map .int)) _) (ev_var 2 rfl) .none (.some (ev_var 1 rfl)) (sd_lst (.m Mem.put_same) (.inl ⟨by rw [cut_none], rfl⟩))).is ⟨μ, sub_put np, hk _ ⟨by rw [List.length_take]; omega⟩⟩)))
theorem ok_draws (F : FunD K "_law_draws" "_law_draws" (defArgs sDraws) (defBody sDraws) (defScope sDraws) [] [] f fd) (B : Bt mg) (cN : Cal P w K mg base "_law_numbers" 2 pdNbs) : FnOk P w K mg base CX0 3 f fd ["_law_script", "_law_count"] (dsp K pdDraws) := by
  refine fn_dl F sc_draws (fun ds μ k h => by obtain ⟨xs, rfl, _⟩ := h; rfl) fun cdv A outer s H E hr ds μ k h => ?_
  obtain ⟨ns, rfl, hl, hk⟩ := h
  refine sv_one (s1_ret (ev_disp2 "at" "row" (by decide) fun p np => ev_int.is (ev_callC cN (hr.mono (by omega)) ((av_cons (ev_var 0 rfl) (av_cons (ev_var 1 rfl) av_nil)).is ⟨ns, rfl, hl, fun xs ok => ⟨Mem.put_same, ?_⟩⟩))))
  rw [Mem.put_put]
  exact hk xs p ok np
theorem ok_take (F : FunD K "_law_take" "_law_take" (defArgs sTake) (defBody sTake) (defScope sTake) [] [] f fd) (B : Bt mg) : FnOk P w K mg base CX0 1 f fd ["_law_draws_here", "_law_bound"] (dsp K pdTake) := by
  refine fn_dl F sc_take (fun ds μ k h => by obtain ⟨q, b, xs, a, rfl, _⟩ := h; rfl) fun cdv A outer s H E hr ds μ k h => ?_
  obtain ⟨q, bd, xs, a, rfl, hq, dr, h0, hk⟩ := h
  have nd := sc_take.nd
  have hl := dr.len
  refine sv_cons (s1_set 2 nd ((ev_dget (p := q) (y := Sum.inr "row") (d := .lst (xs.map .int)) (u1 hr) (ev_var 0 rfl) ev_str hq rfl ⟨rfl, rfl⟩).is ?_))
  refine sv_cons (s1_set 3 nd ((ev_dget (p := q) (y := Sum.inr "at") (d := .int a) (u1 hr) (ev_var 0 rfl) ev_str hq rfl ⟨rfl, rfl⟩).is ?_))
  refine sv_cons (s1_dput (p := q) (y := Sum.inr "at") (u1 hr) ((ev_bin (ev_var 3 rfl) ev_int (rd_add ⟨rfl, rfl⟩)).is ((ev_var 0 rfl).is ⟨rfl, ev_str.is ⟨rfl, hq, (show 2 < 100000 by decide), ?_⟩⟩)))
  have ep : putD [((Sum.inr "at" : Key), D.int a), (Sum.inr "row", .lst (xs.map .int))] (Sum.inr "at") (.int (a + 1)) = [((Sum.inr "at" : Key), D.int (a + 1)), (Sum.inr "row", .lst (xs.map .int))] := rfl
  rw [ep]
  have hm0 := Int.emod_nonneg a (show (420 : Int) ≠ 0 by omega)
  have hm1 := Int.emod_lt_of_pos a (show (0 : Int) < 420 by omega)
  have hat : atI (xs.map D.int) (a % 420) = some (.int (at0 xs (a % 420).toNat)) := by
    have e : (a % 420) = (((a % 420).toNat : Nat) : Int) := by omega
    rw [e]
    exact it_at (by omega)
  have e420 : (((xs.map D.int).length : Nat) : Int) = 420 := by rw [List.length_map, hl]; rfl
  refine sv_cons (s1_set 4 nd ((ev_bin (ev_ix (ev_var 2 rfl) (ev_bin (ev_callT (T := "int") (av_cons (ev_var 3 rfl) av_nil) (cd_int ⟨rfl, rfl⟩) B.int bt_int) (ev_callB (av_cons (ev_var 2 rfl) av_nil) (cd_len (.inr .l) ⟨by rw [e420], rfl⟩) B.len PySem.boot_len) (rd_mod (by omega) ⟨rfl, rfl⟩)) (rd_ixL rfl hat ⟨rfl, rfl⟩)) (ev_bin (ev_var 3 rfl) (ev_callB (av_cons (ev_var 2 rfl) av_nil) (cd_len (.inr .l) ⟨by rw [e420], rfl⟩) B.len PySem.boot_len) (rd_div ⟨by omega, by omega⟩ ⟨rfl, rfl⟩)) (rd_add ⟨rfl, rfl⟩)).is ?_))
  exact sv_one (s1_ret (ev_bin (ev_callT (T := "int") (av_cons (ev_var 4 rfl) av_nil) (cd_int ⟨rfl, rfl⟩) B.int bt_int) (ev_var 1 rfl) (rd_mod h0 (hk _ _ (Int.emod_nonneg _ (by omega)) (Int.emod_lt_of_pos _ h0)))))
end
end Mw
set_option Elab.async false
set_option linter.all false
set_option maxRecDepth 100000
set_option maxHeartbeats 4000000
namespace Mw
open PySem PySem.Spec PyProof.Rows L2 DL Mh
theorem put_id {μ : Mem} {a : Addr} {o : MO} (h : μ a = some o) : μ.put a o = μ := by
  funext c
  unfold Mem.put
  split
  · rename_i hc; rw [hc, h]
  · rfl
theorem at_ints {xs : IL} {v : Int} (h0 : 0 ≤ v) (h1 : v < xs.length) : ∃ z ∈ xs, atI (xs.map D.int) v = some (.int z) := by
  have e : v = ((v.toNat : Nat) : Int) := by omega
  have hl : v.toNat < xs.length := by omega
  rw [e]
  exact ⟨xs[v.toNat], List.getElem_mem hl, it_get (List.getElem?_eq_getElem hl)⟩
theorem at_str {s : Str} {v : Int} (h0 : 0 ≤ v) (h1 : v < s.length) : ∃ c, atI s.cps.toList v = some c := by
  have e : v = ((v.toNat : Nat) : Int) := by omega
  have hl : v.toNat < s.cps.toList.length := by
    have : s.cps.toList.length = s.length := by simp [Str.length]
    omega
  rw [e]
  exact ⟨_, atI_nat (List.getElem?_eq_getElem hl)⟩
theorem join_len (ys : List Str) (h : ∀ y ∈ ys, y.length = 1) : (ys.map (·.length)).sum = ys.length ∧ (Txt.join "" ys).length ≤ ys.length := by
  have e : (ys.map (·.length)).sum = ys.length := by
    induction ys with
    | nil => rfl
    | cons y ys ih => rw [List.map_cons, List.sum_cons, ih fun z hz => h z (List.mem_cons_of_mem _ hz), h y (List.mem_cons_self ..), List.length_cons]; omega
  refine ⟨e, ?_⟩
  show (PySem.Builtin.Str.glued "" ys).length ≤ _
  rw [StrLaws.glued_eq_join]
  have := StrLaws.join_length_le "" ys
  rw [e] at this
  have z : ("" : Str).length = 0 := by decide
  rw [z] at this
  omega
abbrev sNamed : Stmt := top 42
theorem sc_named : FnScope ["_law_draws_here", "_law_small", "_law_names", "_law_k", "_law_size", "_law_rest", "_law_n"] ["_law_draws_here"] (defScope sNamed) := ⟨rfl, rfl, rfl, by decide +kernel, rfl, by decide +kernel, by decide +kernel⟩
def pdNamed : PD := fun ds μ k => ∃ (q : Addr) (xs : IL) (a : Int), ds = [.ref q] ∧ μ q = some (drw xs a) ∧ DrOk xs ∧ ∀ (ss : List Str) (a' : Int), ss.length = 14 → k (.lst (ss.map .str)) (μ.put q (drw xs a'))
abbrev sStock : Stmt := top 43
theorem sc_stock : FnScope ["_law_draws_here", "_law_n", "_law_most", "_law_entries", "_law_k", "_law_entry"] ["_law_draws_here", "_law_n", "_law_most"] (defScope sStock) := ⟨rfl, rfl, rfl, by decide +kernel, rfl, by decide +kernel, by decide +kernel⟩
def pdStock : PD := fun ds μ k => ∃ (q : Addr) (xs : IL) (a : Int) (n : Nat) (mo : Int), ds = [.ref q, .int (n : Nat), .int mo] ∧ μ q = some (drw xs a) ∧ DrOk xs ∧ n ≤ 6 ∧ 0 ≤ mo ∧ ∀ (g : IL) (a' : Int), Ok n g → (∀ i, i < n → at0 g i ≤ mo) → k (itup g) (μ.put q (drw xs a'))
section
variable {P : Program} {w : World} {K : PySem.W.Frag} {mg : Str → Option Value} {base : Heap} {f : Addr} {fd : FuncData}
/-- a draw -/
theorem ev_tk {X : Cx} {δ : DS} {μ : Mem} {k : D → Mem → Prop} {p pos : Pos} {e1 e2 : Expr} {q : Addr} {xs : IL} {a bd : Int} (cT : Cal X.prog X.w X.K X.mg X.base "_law_take" 1 pdTake) (hr : Room 1 X.A) (h1 : EV X e1 δ μ (Is (.ref q) μ)) (h2 : EV X e2 δ μ (Is (.int bd) μ)) (hq : μ q = some (drw xs a)) (dr : DrOk xs) (h0 : 0 < bd)
    (h : ∀ v a' : Int, 0 ≤ v → v < bd → k (.int v) (μ.put q (drw xs a'))) (hg : Gl X "_law_take" := by rfl)
    (he : starEach [e1, e2] X.env = (false, eval e1 X.env) :: starEach [e2] X.env := by rfl) (he2 : starEach [e2] X.env = (false, eval e2 X.env) :: starEach [] X.env := by rfl) (hpl : (backTo pos (starEach [e2] X.env)).any (·.1) = false := by rfl) : EV X (.Call (.Name "_law_take" p) [e1, e2] [] pos) δ μ k :=
  ev_callC cT hr ((av_cons h1 (av_cons h2 av_nil he2) he).is ⟨q, bd, xs, a, rfl, hq, dr, h0, h⟩) hg (by decide) he hpl
theorem ok_named (F : FunD K "_law_named" "_law_named" (defArgs sNamed) (defBody sNamed) (defScope sNamed) [] [] f fd) (B : Bt mg) (cT : Cal P w K mg base "_law_take" 1 pdTake) : FnOk P w K mg base CX0 2 f fd ["_law_draws_here"] (dsp K pdNamed) := by
  refine fn_dl F sc_named (fun ds μ k h => by obtain ⟨q, xs, a, rfl, _⟩ := h; rfl) fun cdv A outer s H E hr ds μ k h => ?_
  obtain ⟨q, xs, a, rfl, hq, dr, hk⟩ := h
  have nd := sc_named.nd
  have hs1 : ("abcdefghijklmnopqrstuvwxyz" : Str).length = 26 := by decide +kernel
  have hs2 : ("0123456789" : Str).length = 10 := by decide +kernel
  have hs3 : ("abcdefghijklmn" : Str).length = 14 := by decide +kernel
  have hz : sizeLine = 16777216 := sizeLine_eq
  refine sv_cons (s1_set 1 nd (ev_str.is ?_))
  refine sv_cons (s1_set 2 nd (ev_lst av_nil (by simp) (.inr fun p np => ?_)))
  have hqp : q ≠ p := fun e => by subst e; rw [hq] at np; cases np
  refine sv_cons (s1_forR (n := 14) 3 PassesOwn.never rfl nd (iv_range B.range ev_int (by omega) (by omega)) (fun i δ' μ' => ∃ (a' : Int) (ss : List Str) (z3 z4 z5 : Option D), δ' = [some (.ref q), some (.str "abcdefghijklmnopqrstuvwxyz"), some (.ref p), z3, z4, z5, none] ∧ μ' = (μ.put q (drw xs a')).put p (.lst (ss.map .str)) ∧ ss.length = i)
    ⟨a, [], none, none, none, rfl, by rw [put_id hq]; rfl, rfl⟩ (fun i δ' μ' hi hI => ?_) (fun δ' μ' hI => ?_))
  · obtain ⟨a1, ss, z3, z4, z5, rfl, rfl, hl⟩ := hI
    have hq1 : ∀ (a' : Int) (o : MO), ((μ.put q (drw xs a')).put p o) q = some (drw xs a') := fun a' o => by rw [Mem.put_ne hqp, Mem.put_same]
    refine sv_cons (s1_set 4 nd (ev_ix0 ((ev_lst (k := Is (.lst (([0, 0, 1, 2, 9] : IL).map .int)) _) (av_cons ev_int (av_cons ev_int (av_cons ev_int (av_cons ev_int (av_cons ev_int av_nil))))) (by simp) (.inl ⟨rfl, rfl⟩)).is (ev_tk cT (hr.mono (by omega)) (ev_var 0 rfl) ev_int (hq1 _ _) dr (by omega) fun v a2 h0 h1 => ?_))))
    obtain ⟨sz, hsz, hat⟩ := at_ints (xs := [0, 0, 1, 2, 9]) h0 (by simpa using h1)
    have sz0 : 0 ≤ sz ∧ sz ≤ 9 := by simp at hsz; omega
    rw [mem2 hqp]
    refine rd_ixL rfl hat ?_
    -- the rest of the name
    have rest : EV (cxOf CX0 P w K mg base ["_law_draws_here", "_law_small", "_law_names", "_law_k", "_law_size", "_law_rest", "_law_n"] "_law_named" (defScope sNamed) f cdv A outer s H E).nox
        (match (defBody sNamed).getD 2 (.Pass ⟨0, 0, 0, 0⟩) with | .For _ _ b _ _ => (match b.getD 1 (.Pass ⟨0, 0, 0, 0⟩) with | .Assign _ e _ => e | _ => .Constant .none 0 ⟨0, 0, 0, 0⟩) | _ => .Constant .none 0 ⟨0, 0, 0, 0⟩)
        [some (.ref q), some (.str "abcdefghijklmnopqrstuvwxyz"), some (.ref p), some (.int (i : Nat)), some (.int sz), z5, none] ((μ.put q (drw xs a2)).put p (.lst (ss.map .str)))
        (fun d μ' => ∃ (t : Str) (a3 : Int), d = .str t ∧ t.length ≤ 9 ∧ μ' = (μ.put q (drw xs a3)).put p (.lst (ss.map .str))) := by
      refine ev_join "" ev_str (ev_freeze (ev_lc (own := [("_law_n", 6)]) 6 ((iv_range B.range (ev_var 4 rfl) (by omega) (by omega)).zero ⟨by simp; omega, fun pp npp => ⟨fun j acc μ' => ∃ (a3 : Int) (ys : List Str), μ' = ((μ.put q (drw xs a3)).put p (.lst (ss.map .str))).put pp (.lst acc) ∧ acc = ys.map .str ∧ ys.length = j ∧ ∀ y ∈ ys, y.length = 1,
        ⟨a2, [], rfl, rfl, rfl, fun y hy => by cases hy⟩, fun j acc μ' hI => ?_, fun j d acc μ' s H C cl fp hd hI => ?_, fun acc μ' hI => ?_⟩⟩) sc_named))
      · obtain ⟨a3, ys, rfl, _⟩ := hI
        exact ⟨trivial, Mem.put_same⟩
      · obtain ⟨a3, ys, rfl, rfl, hyl, hy1⟩ := hI
        have hqpp : q ≠ pp := fun e => by subst e; rw [hq1] at npp; cases npp
        have hppp : p ≠ pp := fun e => by subst e; rw [Mem.put_same] at npp; cases npp
        refine ts_nil ⟨fun _ s H C cl fp => ?_, nofun⟩
        refine ev_ix0 ((ev_bin (k := Is (.str (("abcdefghijklmnopqrstuvwxyz" : Str) ++ "0123456789")) _) (ev_var 1 rfl) ev_str (rd_addS (by rw [hs1, hs2, hz]; omega) ⟨rfl, rfl⟩)).is (ev_tk cT (hr.mono (by omega)) (ev_var 0 rfl) ev_int (by rw [Mem.put_ne hqpp]; exact hq1 _ _) dr (by omega) fun v a4 h0 h1 => ?_))
        obtain ⟨c, hc⟩ := at_str (s := ("abcdefghijklmnopqrstuvwxyz" : Str) ++ "0123456789") h0 (by rw [Str.length_append, hs1, hs2]; omega)
        refine rd_ixS (by rw [Str.length_append, hs1, hs2, hz]; omega) hc ?_
        have em : (((μ.put q (drw xs a3)).put p (.lst (ss.map .str))).put pp (.lst (ys.map .str))).put q (drw xs a4) = ((μ.put q (drw xs a4)).put p (.lst (ss.map .str))).put pp (.lst (ys.map .str)) := by
          rw [Mem.put_comm (Ne.symm hqpp), mem2 hqp]
        rw [em]
        refine ⟨Mem.put_same, a4, ys ++ [⟨#[c]⟩], by rw [Mem.put_put], by rw [List.map_append]; rfl, by rw [List.length_append, List.length_singleton, hyl], fun y hy => ?_⟩
        rcases List.mem_append.mp hy with hy | hy
        · exact hy1 y hy
        · have : y = ⟨#[c]⟩ := by simpa using hy
          subst this; rfl
      · obtain ⟨a3, ys, rfl, rfl, hyl, hy1⟩ := hI
        obtain ⟨j1, j2⟩ := join_len ys hy1
        rw [rgD_len] at hyl
        have z0 : ("" : Str).length = 0 := by decide
        obtain ⟨n1, n1'⟩ := ne_new npp
        obtain ⟨n2, n2'⟩ := ne_new n1'
        have hpn : ((μ.put q (drw xs a3)).put p (.lst (ss.map .str))) pp = none := by rw [Mem.put_ne (Ne.symm n1), Mem.put_ne (Ne.symm n2)]; exact n2'
        exact ⟨pp, _, (μ.put q (drw xs a3)).put p (.lst (ss.map .str)), rfl, Mem.put_same, sub_put hpn, hpn, ys, rfl, by rw [j1, z0]; omega, _, a3, rfl, by omega, rfl⟩
    refine sv_cons (s1_set 5 nd (rest.mono fun d μ2 ⟨t, a3, e1, ht, e2⟩ => ?_))
    subst e1 e2
    obtain ⟨c3, hc3⟩ := at_str (s := "abcdefghijklmn") (v := (i : Int)) (by omega) (by rw [hs3]; omega)
    refine sv_one (s1_expr (ev_app0 (p := p) (ev_var 2 rfl) Mem.put_same (ev_binN (ev_binN (ev_ix0 ((ev_var 1 rfl).is (ev_tk cT (hr.mono (by omega)) (ev_var 0 rfl) ev_int (hq1 _ _) dr (by omega) fun v a4 h0 h1 => ?_)))))))
    obtain ⟨c, hc⟩ := at_str (s := "abcdefghijklmnopqrstuvwxyz") h0 (by rw [hs1]; omega)
    rw [mem2 hqp]
    have l1 : (⟨#[c]⟩ : Str).length = 1 := rfl
    have l3 : (⟨#[c3]⟩ : Str).length = 1 := rfl
    refine rd_ixS (by rw [hs1, hz]; omega) hc ((ev_var 5 rfl).is (rd_addS (by rw [l1, hz]; omega) ((ev_ix (k := Is (.str ⟨#[c3]⟩) _) ev_str (ev_var 3 rfl) (rd_ixS (by rw [hs3, hz]; omega) hc3 ⟨rfl, rfl⟩)).is (rd_addS (by rw [Str.length_append, l1, l3, hz]; omega) ⟨_, Mem.put_same, by rw [List.length_map]; omega, ?_⟩))))
    exact ⟨a4, ss ++ [_], _, _, _, rfl, by rw [Mem.put_put, List.map_append]; rfl, by rw [List.length_append, List.length_singleton, hl]⟩
  · obtain ⟨a1, ss, z3, z4, z5, rfl, rfl, hl⟩ := hI
    refine sv_one (s1_ret (ev_freeze ((ev_var 2 rfl).is ⟨p, _, μ.put q (drw xs a1), rfl, Mem.put_same, sub_put ?_, ?_, hk ss a1 hl⟩)))
    · rw [Mem.put_ne (Ne.symm hqp)]; exact np
    · rw [Mem.put_ne (Ne.symm hqp)]; exact np
end
end Mw
set_option Elab.async false
set_option linter.all false
set_option maxRecDepth 100000
set_option maxHeartbeats 4000000
namespace Mw
open PySem PySem.Spec PyProof.Rows L2 DL Mh
abbrev sBook : Stmt := top 44
theorem sc_book : FnScope ["_law_draws_here", "_law_most", "_law_names", "_law_n", "_law_moves", "_law_k", "_law_take_here", "_law_high", "_law_low", "_law_entry"] ["_law_draws_here", "_law_most"] (defScope sBook) := ⟨rfl, rfl, rfl, by decide +kernel, rfl, by decide +kernel, by decide +kernel⟩
def pdBook : PD := fun ds μ k => ∃ (q : Addr) (xs : IL) (a : Int), ds = [.ref q, .int 5] ∧ μ q = some (drw xs a) ∧ DrOk xs ∧ ∀ (b : Bk) (a' : Int), BOk b → k (bkD b) (μ.put q (drw xs a'))
section
variable {P : Program} {w : World} {K : PySem.W.Frag} {mg : Str → Option Value} {base : Heap} {f : Addr} {fd : FuncData}
theorem ok_stock (F : FunD K "_law_stock" "_law_stock" (defArgs sStock) (defBody sStock) (defScope sStock) [] [] f fd) (B : Bt mg) (cT : Cal P w K mg base "_law_take" 1 pdTake) : FnOk P w K mg base CX0 2 f fd ["_law_draws_here", "_law_n", "_law_most"] (dsp K pdStock) := by
  refine fn_dl F sc_stock (fun ds μ k h => by obtain ⟨q, xs, a, n, mo, rfl, _⟩ := h; rfl) fun cdv A outer s H E hr ds μ k h => ?_
  obtain ⟨q, xs, a, n, mo, rfl, hq, dr, hn, hmo, hk⟩ := h
  have nd := sc_stock.nd
  refine sv_cons (s1_set 3 nd (ev_lst av_nil (by simp) (.inr fun p np => ?_)))
  have hqp : q ≠ p := fun e => by subst e; rw [hq] at np; cases np
  have hq1 : ∀ (a' : Int) (o : MO), ((μ.put q (drw xs a')).put p o) q = some (drw xs a') := fun a' o => by rw [Mem.put_ne hqp, Mem.put_same]
  refine sv_cons (s1_forR (n := (n : Int)) 4 PassesOwn.never rfl nd (iv_range B.range (ev_var 1 rfl) (by omega) (by omega)) (fun i δ' μ' => ∃ (a' : Int) (gs : IL) (z : Option D), δ' = [some (.ref q), some (.int (n : Nat)), some (.int mo), some (.ref p), z, none] ∧ μ' = (μ.put q (drw xs a')).put p (.lst (gs.map .int)) ∧ gs.length = i ∧ ∀ g ∈ gs, 0 ≤ g)
    ⟨a, [], none, rfl, by rw [put_id hq]; rfl, rfl, fun g hg => by cases hg⟩ (fun i δ' μ' hi hI => ?_) (fun δ' μ' hI => ?_))
  · obtain ⟨a1, gs, z, rfl, rfl, hl, hg⟩ := hI
    refine sv_one (s1_expr (ev_app0 (p := p) (ev_var 3 rfl) Mem.put_same (ev_ix0 (ev_lst0 (av_cons0 (ev_int.is (av_cons0 (ev_int.is (av_cons0 (ev_int.is (av_cons0 (ev_int.is (av_cons0 (ev_tk cT (hr.mono (by omega)) (ev_var 0 rfl) (ev_bin (ev_var 2 rfl) ev_int (rd_add ⟨rfl, rfl⟩)) (hq1 _ _) dr (by omega) fun v a2 h0 h1 => ?_))))))))))))))
    rw [mem2 hqp]
    refine av_cons0 ((ev_var 2 rfl).is (av_nil0 ⟨by simp, .inl (ev_tk cT (hr.mono (by omega)) (ev_var 0 rfl) ev_int (hq1 _ _) dr (by omega) fun u a3 g0 g1 => ?_)⟩))
    rw [mem2 hqp]
    obtain ⟨z', hz, hat⟩ := at_ints (xs := [0, 0, 1, 2, v, mo]) g0 (by simpa using g1)
    have z0 : 0 ≤ z' := by simp at hz; omega
    refine rd_ixL rfl hat ⟨_, Mem.put_same, by rw [List.length_map]; omega, a3, gs ++ [z'], _, rfl, by rw [Mem.put_put, List.map_append]; rfl, by rw [List.length_append, List.length_singleton, hl], fun g hgm => ?_⟩
    rcases List.mem_append.mp hgm with hgm | hgm
    · exact hg g hgm
    · have : g = z' := by simpa using hgm
      omega
  · obtain ⟨a1, gs, z, rfl, rfl, hl, hg⟩ := hI
    rw [Int.toNat_natCast] at hl
    refine sv_one (s1_ret (ev_drop (ev_callT0 (T := "tuple") (av_cons0 ((ev_lcP (own := [("_law_entry", 5)]) (k := Is (.lst ((gs.map fun g => if g < mo then g else mo).map .int)) _) 5 (iv_mem (p := p) (ev_var 3 rfl) Mem.put_same) (by simp; omega) (fun _ _ => true) (fun i _ => .int (if at0 gs i < mo then at0 gs i else mo)) (fun μ' hsub => hsub p _ Mem.put_same)
      (fun i d μ' s H C cl fp hd _ => ts_nil ⟨rfl, rfl⟩) (fun i d μ' s H C cl fp hd hsub _ => ?_) (.inl ⟨?_, rfl⟩) sc_stock).is (av_nil0 (cd_tuple (.inr .l) ⟨μ.put q (drw xs a1), sub_put (by rw [Mem.put_ne (Ne.symm hqp)]; exact np), hk _ a1 ⟨by simp [hl], fun i hi => ?_⟩ fun i hi => ?_⟩)))) B.tuple bt_tuple)))
    · rw [List.getElem?_map] at hd
      obtain ⟨x, hx, rfl⟩ : ∃ x, gs[i]? = some x ∧ D.int x = d := by
        cases q : gs[i]? with
        | none => rw [q] at hd; cases hd
        | some e => rw [q] at hd; exact ⟨e, rfl, Option.some.inj hd⟩
      have ex : at0 gs i = x := by unfold at0; rw [List.getD_eq_getElem?_getD, hx]; rfl
      rw [ex]
      exact ev_callB (id := "min") (av_cons (ev_var 2 rfl) (av_cons (ev_var 5 rfl) av_nil)) (cd_min rfl ⟨rfl, rfl⟩) B.min (by decide +kernel)
    · rw [kept_map _ _ gs (fun g => .int (if g < mo then g else mo)) (by simp)]
      · rw [List.map_map]; rfl
      · intro i d x hd hx
        have ex : at0 gs i = x := by unfold at0; rw [List.getD_eq_getElem?_getD, hx]; rfl
        rw [ex]
    · have hx : gs[i]? = some (gs[i]'(by omega)) := List.getElem?_eq_getElem (by omega)
      have e : at0 (gs.map fun g => if g < mo then g else mo) i = if gs[i]'(by omega) < mo then gs[i]'(by omega) else mo := by unfold at0; rw [List.getD_eq_getElem?_getD, List.getElem?_map, hx]; rfl
      rw [e]
      have := hg _ (List.getElem_mem (show i < gs.length by omega))
      split <;> omega
    · have hx : gs[i]? = some (gs[i]'(by omega)) := List.getElem?_eq_getElem (by omega)
      have e : at0 (gs.map fun g => if g < mo then g else mo) i = if gs[i]'(by omega) < mo then gs[i]'(by omega) else mo := by unfold at0; rw [List.getD_eq_getElem?_getD, List.getElem?_map, hx]; rfl
      rw [e]
      split <;> omega
/-- the moves drawn so far -/
structure MvOk (n : Nat) (m : Mv) : Prop where
  tk : Ok n m.take ∧ ∀ i, i < n → at0 m.take i ≤ 5
  hi : Ok n m.high ∧ ∀ i, i < n → at0 m.high i ≤ 5
  lo : Ok n m.low ∧ ∀ i, i < n → at0 m.low i ≤ at0 m.high i
theorem ok_book (F : FunD K "_law_book" "_law_book" (defArgs sBook) (defBody sBook) (defScope sBook) [] [] f fd) (B : Bt mg) (cT : Cal P w K mg base "_law_take" 1 pdTake) (cN : Cal P w K mg base "_law_named" 2 pdNamed) (cS : Cal P w K mg base "_law_stock" 2 pdStock) : FnOk P w K mg base CX0 3 f fd ["_law_draws_here", "_law_most"] (dsp K pdBook) := by
  refine fn_dl F sc_book (fun ds μ k h => by obtain ⟨q, xs, a, rfl, _⟩ := h; rfl) fun cdv A outer s H E hr ds μ k h => ?_
  obtain ⟨q, xs, a, rfl, hq, dr, hk⟩ := h
  have nd := sc_book.nd
  refine sv_cons (s1_set 2 nd (ev_callC cN (hr.mono (by omega)) ((av_cons (ev_var 0 rfl) av_nil).is ⟨q, xs, a, rfl, hq, dr, fun ss a1 hss => ?_⟩)))
  refine sv_cons (s1_set 3 nd (ev_binN (ev_int.is (ev_tk cT (hr.mono (by omega)) (ev_var 0 rfl) ev_int Mem.put_same dr (by omega) fun v a2 h0 h1 => rd_add ?_))))
  rw [Mem.put_put]
  obtain ⟨n, hn⟩ : ∃ n : Nat, 1 + v = (n : Int) := ⟨(1 + v).toNat, by omega⟩
  rw [hn]
  have n1 : 1 ≤ n := by omega
  have n6 : n ≤ 6 := by omega
  refine sv_cons (s1_set 4 nd (ev_lst av_nil (by simp) (.inr fun p np => ?_)))
  obtain ⟨hqp, np'⟩ := ne_new np
  have hq1 : ∀ (a' : Int) (o : MO), ((μ.put q (drw xs a')).put p o) q = some (drw xs a') := fun a' o => by rw [Mem.put_ne hqp, Mem.put_same]
  have hnd : (((ss.take n).map D.str).length) = n := by rw [List.length_map, List.length_take]; omega
  refine sv_cons (s1_for0 PassesOwn.never rfl (iv_range0 B.range (ev_tk cT (hr.mono (by omega)) (ev_var 0 rfl) ev_int (hq1 _ _) dr (by omega) fun cn a3 c0 c1 => ⟨cn, rfl, by omega, by omega, ?_⟩)))
  rw [mem2 hqp]
  refine ⟨fun i δ' μ' => ∃ (a' : Int) (ms : List Mv) (z5 z6 z7 z8 : Option D), δ' = [some (.ref q), some (.int 5), some (.lst (ss.map .str)), some (.int (n : Nat)), some (.ref p), z5, z6, z7, z8, none] ∧ μ' = (μ.put q (drw xs a')).put p (.lst (ms.map mvD)) ∧ ms.length = i ∧ ∀ m ∈ ms, MvOk n m,
    ⟨a3, [], none, none, none, none, rfl, rfl, rfl, fun m hm => by cases hm⟩, fun _ _ _ _ => trivial, fun i d δ' μ' hd hI => ?_, fun δ' μ' hI => ?_⟩
  · obtain ⟨a4, ms, z5, z6, z7, z8, rfl, rfl, hml, hmo⟩ := hI
    obtain ⟨hi, rfl⟩ := rg_lt hd
    refine gv_name 5 nd ?_
    refine sv_cons (s1_set 6 nd (ev_callC cS (hr.mono (by omega)) ((av_cons (ev_var 0 rfl) (av_cons (ev_var 3 rfl) (av_cons (ev_var 1 rfl) av_nil))).is ⟨q, xs, a4, n, 5, rfl, hq1 _ _, dr, n6, by omega, fun tk a5 tk1 tk2 => ?_⟩)))
    rw [mem2 hqp]
    refine sv_cons (s1_set 7 nd (ev_callC cS (hr.mono (by omega)) ((av_cons (ev_var 0 rfl) (av_cons (ev_var 3 rfl) (av_cons (ev_var 1 rfl) av_nil))).is ⟨q, xs, a5, n, 5, rfl, hq1 _ _, dr, n6, by omega, fun hg a6 hg1 hg2 => ?_⟩)))
    rw [mem2 hqp]
    refine sv_cons (s1_set 8 nd ((ev_var 7 rfl).is ?_))
    obtain ⟨nm, hnm⟩ : ∃ nm : Str, atI (ss.map D.str) (6 + (i : Int)) = some (.str nm) := by
      have e : (6 + (i : Int)) = ((6 + i : Nat) : Int) := by omega
      have hl : 6 + i < ss.length := by omega
      rw [e]
      exact ⟨ss[6 + i], atI_nat (by rw [List.getElem?_map, List.getElem?_eq_getElem hl]; rfl)⟩
    -- the last statement
    have last : ∀ (kd : DE), (∀ δ' μ', (∃ (a' : Int) (ms : List Mv) (z5 z6 z7 z8 : Option D), δ' = [some (.ref q), some (.int 5), some (.lst (ss.map .str)), some (.int (n : Nat)), some (.ref p), z5, z6, z7, z8, none] ∧ μ' = (μ.put q (drw xs a')).put p (.lst (ms.map mvD)) ∧ ms.length = i + 1 ∧ ∀ m ∈ ms, MvOk n m) → kd.nx δ' μ') → ∀ (lo : IL) (a7 : Int), Ok n lo → (∀ i, i < n → at0 lo i ≤ at0 hg i) → SV (cxOf CX0 P w K mg base ["_law_draws_here", "_law_most", "_law_names", "_law_n", "_law_moves", "_law_k", "_law_take_here", "_law_high", "_law_low", "_law_entry"] "_law_book" (defScope sBook) f cdv A outer s H E).nox
        (match (defBody sBook).getD 3 (.Pass ⟨0, 0, 0, 0⟩) with | .For _ _ b _ _ => b.drop 4 | _ => []) [some (.ref q), some (.int 5), some (.lst (ss.map .str)), some (.int (n : Nat)), some (.ref p), some (.int (i : Nat)), some (itup tk), some (itup hg), some (itup lo), none] ((μ.put q (drw xs a7)).put p (.lst (ms.map mvD)))
        kd := fun kd hkd lo a7 lo1 lo2 => by
      refine sv_one (s1_expr (ev_app (p := p) (ds := ms.map mvD) (d := mvD ⟨nm, tk, lo, hg⟩) (ev_var 4 rfl) (ev_tup (av_cons (ev_ix (ev_var 2 rfl) (ev_bin ev_int (ev_var 5 rfl) (rd_add ⟨rfl, rfl⟩)) (rd_ixL rfl hnm ⟨rfl, rfl⟩)) (av_cons (ev_var 6 rfl) (av_cons (ev_var 8 rfl) (av_cons (ev_var 7 rfl) av_nil)))) (by simp) ⟨rfl, rfl⟩) Mem.put_same Mem.put_same (by rw [List.length_map]; omega) ?_))
      refine hkd _ _ ⟨a7, ms ++ [⟨nm, tk, lo, hg⟩], _, _, _, _, rfl, by rw [Mem.put_put, List.map_append]; rfl, by rw [List.length_append, List.length_singleton, hml], fun m hm => ?_⟩
      rcases List.mem_append.mp hm with hm | hm
      · exact hmo m hm
      · have : m = ⟨nm, tk, lo, hg⟩ := by simpa using hm
        subst this
        exact ⟨⟨tk1, tk2⟩, ⟨hg1, hg2⟩, ⟨lo1, lo2⟩⟩
    refine sv_cons (s1_if (tv_cmpN (ev_tk cT (hr.mono (by omega)) (ev_var 0 rfl) ev_int (hq1 _ _) dr (by omega) fun u a7 u0 u1 => ev_int.is (rd_eq ⟨_, rfl, fun _ => ?_, fun _ => sv_nil ?_⟩))))
    · rw [mem2 hqp]
      refine sv_one (s1_set 8 nd (ev_callT0 (T := "tuple") (av_cons0 (EV.mono (k := fun d μ' => ∃ (lo : IL) (a8 : Int), d = .lst (lo.map .int) ∧ μ' = (μ.put q (drw xs a8)).put p (.lst (ms.map mvD)) ∧ Ok n lo ∧ ∀ i, i < n → at0 lo i ≤ at0 hg i) ?_ fun d μ' ⟨lo, a8, e1, e2, lo1, lo2⟩ => by
        subst e1 e2
        exact av_nil0 (cd_tuple (.inr .l) (last _ (fun _ _ h => h) lo a8 lo1 lo2)))) B.tuple bt_tuple))
      refine ev_freeze (ev_lc (own := [("_law_entry", 9)]) 9 ((iv_tup (ev_var 7 rfl)).zero ⟨by rw [List.length_map, hg1.len]; omega, fun pp npp => ⟨fun j acc μ' => ∃ (a8 : Int) (lo : IL), μ' = ((μ.put q (drw xs a8)).put p (.lst (ms.map mvD))).put pp (.lst acc) ∧ acc = lo.map .int ∧ lo.length = j ∧ ∀ i, i < j → 0 ≤ at0 lo i ∧ at0 lo i ≤ at0 hg i,
        ⟨a7, [], rfl, rfl, rfl, fun i hi => by omega⟩, fun j acc μ' hI => ?_, fun j d acc μ' s H C cl fp hd hI => ?_, fun acc μ' hI => ?_⟩⟩) sc_book)
      · obtain ⟨a8, lo, rfl, _⟩ := hI
        exact ⟨trivial, Mem.put_same⟩
      · obtain ⟨a8, lo, rfl, rfl, lol, lo1⟩ := hI
        obtain ⟨m1, m1'⟩ := ne_new npp
        obtain ⟨m2, m2'⟩ := ne_new m1'
        rw [List.getElem?_map] at hd
        obtain ⟨x, hx, rfl⟩ : ∃ x, hg[j]? = some x ∧ D.int x = d := by
          cases q : hg[j]? with
          | none => rw [q] at hd; cases hd
          | some e => rw [q] at hd; exact ⟨e, rfl, Option.some.inj hd⟩
        have hjl : j < n := by have := (List.getElem?_eq_some_iff.mp hx).1; rw [hg1.len] at this; exact this
        have ex : at0 hg j = x := by unfold at0; rw [List.getD_eq_getElem?_getD, hx]; rfl
        have x0 : 0 ≤ x := by rw [← ex]; exact hg1.nn j hjl
        refine ts_nil ⟨fun _ s H C cl fp => ?_, nofun⟩
        refine ev_tk cT (hr.mono (by omega)) (ev_var 0 rfl) (ev_bin (ev_var 9 rfl) ev_int (rd_add ⟨rfl, rfl⟩)) (by rw [Mem.put_ne m2]; exact hq1 _ _) dr (by omega) fun v a9 h0 h1 => ?_
        have em : (((μ.put q (drw xs a8)).put p (.lst (ms.map mvD))).put pp (.lst (lo.map .int))).put q (drw xs a9) = ((μ.put q (drw xs a9)).put p (.lst (ms.map mvD))).put pp (.lst (lo.map .int)) := by
          rw [Mem.put_comm (Ne.symm m2), mem2 hqp]
        rw [em]
        refine ⟨Mem.put_same, a9, lo ++ [v], by rw [Mem.put_put], by rw [List.map_append]; rfl, by rw [List.length_append, List.length_singleton, lol], fun i hi => ?_⟩
        by_cases hij : i < j
        · have e : at0 (lo ++ [v]) i = at0 lo i := by unfold at0; rw [List.getD_eq_getElem?_getD, List.getD_eq_getElem?_getD, List.getElem?_append_left (by omega)]
          rw [e]
          exact lo1 i hij
        · have e0 : i = j := by omega
          have e : at0 (lo ++ [v]) i = v := by unfold at0; rw [List.getD_eq_getElem?_getD, e0, ← lol, List.getElem?_append_right (Nat.le_refl _), Nat.sub_self]; rfl
          rw [e, e0, ex]
          omega
      · obtain ⟨a8, lo, rfl, rfl, lol, lo1⟩ := hI
        obtain ⟨m1, m1'⟩ := ne_new npp
        obtain ⟨m2, m2'⟩ := ne_new m1'
        have hpn : ((μ.put q (drw xs a8)).put p (.lst (ms.map mvD))) pp = none := by rw [Mem.put_ne (Ne.symm m1), Mem.put_ne (Ne.symm m2)]; exact m2'
        rw [List.length_map, hg1.len] at lol lo1
        exact ⟨pp, _, (μ.put q (drw xs a8)).put p (.lst (ms.map mvD)), rfl, Mem.put_same, sub_put hpn, hpn, lo, a8, rfl, rfl, ⟨lol, fun i hi => (lo1 i hi).1⟩, fun i hi => (lo1 i hi).2⟩
    · rw [mem2 hqp]
      exact last _ (fun _ _ h => h) hg a7 hg1 fun i _ => Int.le_refl _
  · obtain ⟨a4, ms, z5, z6, z7, z8, rfl, rfl, hml, hmo⟩ := hI
    rw [rgD_len] at hml
    have hb : bkD ⟨ss.take n, ms⟩ = .tup [.tup ((ss.take n).map .str), .tup (ms.map mvD)] := rfl
    have en : Bk.n ⟨ss.take n, ms⟩ = n := by show (ss.take n).length = n; rw [List.length_take]; omega
    have cutS : DL.cutD (ss.map D.str) none (some (n : Nat)) = (ss.take n).map D.str := by
      unfold DL.cutD
      have e : HT.sIx (ss.map D.str).length 0 none = 0 := rfl
      rw [HT.sIx_nat, e, List.drop_zero, Nat.sub_zero, ← List.map_take, List.length_map, Nat.min_eq_left (by omega)]
    refine sv_one (s1_ret (ev_drop (ev_tup0 (av_cons0 (ev_callT0 (T := "tuple") (av_cons0 ((ev_slice (l := none) (u := some ((n : Nat) : Int)) (k := Is (.lst ((ss.take n).map .str)) _) (ev_var 2 rfl) .none (.some (ev_var 3 rfl)) (sd_lst .l (.inl ⟨by rw [cutS], rfl⟩))).is (av_nil0 (cd_tuple (.inr .l)
      (av_cons0 (ev_callT0 (T := "tuple") (av_cons0 ((ev_var 4 rfl).is (av_nil0 (cd_tuple (.inr (.m Mem.put_same)) (av_nil0 ⟨by simp, μ.put q (drw xs a4), sub_put (by rw [Mem.put_ne (Ne.symm hqp)]; exact np'), ?_⟩))))) B.tuple bt_tuple)))))) B.tuple bt_tuple)))))
    rw [← hb]
    exact hk _ a4 ⟨by rw [en]; exact n1, by rw [en]; exact n6, by show ms.length ≤ 8; omega, fun m hm => by rw [en]; exact (hmo m hm).tk, fun m hm => by rw [en]; exact (hmo m hm).hi, fun m hm => by rw [en]; exact (hmo m hm).lo⟩
end
end Mw
set_option Elab.async false
set_option linter.all false
set_option maxRecDepth 100000
set_option maxHeartbeats 4000000
namespace Mw
open PySem PySem.Spec PyProof.Rows L2 DL Mh
abbrev nEvent : List Str := ["_law_draws_here", "_law_book_here", "_law_held", "_law_way_here", "_law_used", "_law_free", "_law_n", "_law_shards", "_law_people", "_law_shard", "_law_who", "_law_have", "_law_kind", "_law_m", "_law_name", "_law_take_here", "_law_low", "_law_high", "_law_gives", "_law_part", "_law_other", "_law_ticket", "_law_tickets", "_law_k", "_law_entry"]
abbrev sEvent : Stmt := top 45
theorem sc_event : FnScope nEvent ["_law_draws_here", "_law_book_here", "_law_held", "_law_way_here", "_law_used", "_law_free"] (defScope sEvent) := ⟨rfl, rfl, rfl, by decide +kernel, rfl, by decide +kernel, by decide +kernel⟩
/-- an event as it is drawn -/
structure Drawn (b : Bk) (held : Held) (way : Way) (us : List Int) (e : Ev) (us' : List Int) : Prop where
  ok : EOk b e
  pos : ∀ hist, possible held (flow b hist e) = true
  send : ∀ p t g, e = .send p t g → t ∉ us ∧ us' = us ++ [t]
  other : (∀ p t g, e ≠ .send p t g) → us' = us
  land : ∀ p t, e = .land p t → ∃ g, aget way t = some g
def pdEvent : PD := fun ds μ k => ∃ (q : Addr) (xs : IL) (a : Int) (b : Bk) (hd wd ud : Addr) (held : Held) (way : Way) (us : List Int), ds = [.ref q, bkD b, .ref hd, .ref wd, .ref ud, .bl false] ∧ μ q = some (drw xs a) ∧ DrOk xs ∧ q ≠ wd ∧ μ hd = some (.dT (heldK held)) ∧ μ wd = some (.dK (wayK way)) ∧ μ ud = some (.lst (us.map .int)) ∧
  BOk b ∧ SOk b.n ⟨held, way⟩ ∧ way.length ≤ 60 ∧ us.length ≤ 1000 ∧ ∀ e a' us', Drawn b held way us e us' → k (evD e) ((μ.put q (drw xs a')).put ud (.lst (us'.map .int)))
theorem at_strs {ss : List Str} {v : Int} (h0 : 0 ≤ v) (h1 : v < ss.length) : ∃ z ∈ ss, atI (ss.map D.str) v = some (.str z) := by
  have e : v = ((v.toNat : Nat) : Int) := by omega
  have hl : v.toNat < ss.length := by omega
  rw [e]
  exact ⟨ss[v.toNat], List.getElem_mem hl, atI_nat (by rw [List.getElem?_map, List.getElem?_eq_getElem hl]; rfl)⟩
theorem places_mem {x y : Str} (hx : x ∈ (["east", "west"] : List Str)) (hy : y ∈ (["ann", "bob", "cy"] : List Str)) : (x, y) ∈ DL.places := by
  simp only [List.mem_cons, List.not_mem_nil, or_false] at hx hy
  unfold DL.places
  rcases hx with rfl | rfl <;> rcases hy with rfl | rfl | rfl <;> simp
theorem others_two {y : Str} (hy : y ∈ (["ann", "bob", "cy"] : List Str)) : ((["ann", "bob", "cy"] : List Str).filter fun z => !decide (z = y)).length = 2 := by
  simp only [List.mem_cons, List.not_mem_nil, or_false] at hy
  rcases hy with rfl | rfl | rfl <;> decide +kernel
theorem at0_app1 {lo : IL} {v : Int} {i : Nat} (h : i < lo.length) : at0 (lo ++ [v]) i = at0 lo i := by unfold at0; rw [List.getD_eq_getElem?_getD, List.getD_eq_getElem?_getD, List.getElem?_append_left h]
theorem at0_app2 {lo : IL} {v : Int} : at0 (lo ++ [v]) lo.length = v := by unfold at0; rw [List.getD_eq_getElem?_getD, List.getElem?_append_right (Nat.le_refl _), Nat.sub_self]; rfl
theorem int_get {xs : IL} {i : Nat} {d : D} (h : (xs.map D.int)[i]? = some d) : i < xs.length ∧ d = .int (at0 xs i) := by
  rw [List.getElem?_map] at h
  cases q : xs[i]? with
  | none => rw [q] at h; cases h
  | some e =>
    rw [q] at h
    cases h
    refine ⟨(List.getElem?_eq_some_iff.mp q).1, ?_⟩
    unfold at0
    rw [List.getD_eq_getElem?_getD, q]
    rfl
section
variable {P : Program} {w : World} {K : PySem.W.Frag} {mg : Str → Option Value} {base : Heap} {f : Addr} {fd : FuncData}
theorem ok_event (F : FunD K "_law_event" "_law_event" (defArgs sEvent) (defBody sEvent) (defScope sEvent) [] [] f fd) (B : Bt mg) (cT : Cal P w K mg base "_law_take" 1 pdTake) (cS : Cal P w K mg base "_law_stock" 2 pdStock) : FnOk P w K mg base CX0 3 f fd ["_law_draws_here", "_law_book_here", "_law_held", "_law_way_here", "_law_used", "_law_free"] (dsp K pdEvent) := by
  refine fn_dl F sc_event (fun ds μ k h => by obtain ⟨q, xs, a, b, c, d, e, g, i, j, rfl, _⟩ := h; rfl) fun cdv A outer s H E hr ds μ k h => ?_
  obtain ⟨q, xs, a, b, hd, wd, ud, held, way, us, rfl, hq, dr, hqw, hhd, hwd, hud, BO, so, wl, ul, hk⟩ := h
  have nd := sc_event.nd
  have n6 := BO.n6
  have n1 := BO.n1
  have m8 := BO.m8
  have hqh : hd ≠ q := fun e => by subst e; rw [hq] at hhd; cases hhd
  have hqu : ud ≠ q := fun e => by subst e; rw [hq] at hud; cases hud
  have g1 : ∀ a' : Int, (μ.put q (drw xs a')) hd = some (.dT (heldK held)) := fun a' => by rw [Mem.put_ne hqh]; exact hhd
  have g2 : ∀ a' : Int, (μ.put q (drw xs a')) wd = some (.dK (wayK way)) := fun a' => by rw [Mem.put_ne (Ne.symm hqw)]; exact hwd
  have g3 : ∀ a' : Int, (μ.put q (drw xs a')) ud = some (.lst (us.map .int)) := fun a' => by rw [Mem.put_ne hqu]; exact hud
  have same : ∀ a' : Int, (μ.put q (drw xs a')).put ud (.lst (us.map .int)) = μ.put q (drw xs a') := fun a' => put_id (g3 a')
  have ez : (.tup (List.replicate ((b.n : Nat) : Int).toNat [D.int 0]).flatten : D) = itup (zero b.n) := by rw [← zeroD]; simp
  refine sv_cons (s1_set 6 nd ((ev_callB (av_cons (ev_ix (ev_var 1 rfl) ev_int (rd_ixT rfl rfl ⟨rfl, rfl⟩)) av_nil) (cd_len (k := Is (.int (b.n : Nat)) μ) (.inl rfl) ⟨by simp [Bk.n], rfl⟩) B.len PySem.boot_len).is ?_))
  refine sv_cons (s1_set 7 nd ((ev_lst (k := Is (.lst ((["east", "west"] : List Str).map .str)) μ) (av_cons ev_str (av_cons ev_str av_nil)) (by simp) (.inl ⟨rfl, rfl⟩)).is ?_))
  refine sv_cons (s1_set 8 nd ((ev_lst (k := Is (.lst ((["ann", "bob", "cy"] : List Str).map .str)) μ) (av_cons ev_str (av_cons ev_str (av_cons ev_str av_nil))) (by simp) (.inl ⟨rfl, rfl⟩)).is ?_))
  refine sv_cons (s1_set 9 nd (ev_ix0 ((ev_var 7 rfl).is (ev_tk cT (hr.mono (by omega)) (ev_var 0 rfl) ev_int hq dr (by omega) fun v a1 h0 h1 => ?_))))
  obtain ⟨sh, hsh, hat1⟩ := at_strs (ss := ["east", "west"]) h0 (by simpa using h1)
  refine rd_ixL rfl hat1 ?_
  refine sv_cons (s1_set 10 nd (ev_ix0 ((ev_var 8 rfl).is (ev_tk cT (hr.mono (by omega)) (ev_var 0 rfl) ev_int Mem.put_same dr (by omega) fun v a2 h0 h1 => ?_))))
  obtain ⟨who, hwho, hat2⟩ := at_strs (ss := ["ann", "bob", "cy"]) h0 (by simpa using h1)
  rw [Mem.put_put]
  refine rd_ixL rfl hat2 ?_
  have hpl := places_mem hsh hwho
  refine sv_cons (s1_set 11 nd ((ev_getT (p := hd) (kvs := heldK held) (y := plK (sh, who)) (dx := itup (zero b.n)) (k := Is (itup (hget b.n held (sh, who))) _) (u1 hr) (ev_var 2 rfl) (ev_tup (av_cons (ev_var 9 rfl) (av_cons (ev_var 10 rfl) av_nil)) (by simp) ⟨rfl, rfl⟩)
    (ev_bin (ev_tup (av_cons ev_int av_nil) (by simp) ⟨rfl, rfl⟩) (ev_var 6 rfl) (rd_repT rfl (by simp) (by simp) (by omega) (by omega) ⟨ez, rfl⟩)) (g1 a2) (g1 a2) ⟨held_getD b.n held (sh, who), rfl⟩ ⟨rfl, rfl, rfl, rfl⟩).is ?_))
  have hv := hget_ok so (sh, who)
  generalize hvg : hget b.n held (sh, who) = have_ at hv ⊢
  refine sv_cons (s1_set 12 nd (ev_tk cT (hr.mono (by omega)) (ev_var 0 rfl) ev_int Mem.put_same dr (by omega) fun kind a3 k0 k1 => ?_))
  rw [Mem.put_put]
  -- the last two statements
  have tail2 : ∀ (a4 : Int) (z13 z14 z15 z16 z17 z18 z19 z20 z21 : Option D), SV (cxOf CX0 P w K mg base nEvent "_law_event" (defScope sEvent) f cdv A outer s H E).nox ((defBody sEvent).drop 12)
      [some (.ref q), some (bkD b), some (.ref hd), some (.ref wd), some (.ref ud), some (.bl false), some (.int (b.n : Nat)), some (.lst ((["east", "west"] : List Str).map .str)), some (.lst ((["ann", "bob", "cy"] : List Str).map .str)), some (.str sh), some (.str who), some (itup have_), some (.int kind), z13, z14, z15, z16, z17, z18, z19, z20, z21, none, none, none]
      (μ.put q (drw xs a4)) { nx := fun _ μ' => k .non μ', rt := k } := by
    intro a4 z13 z14 z15 z16 z17 z18 z19 z20 z21
    -- forge
    have fin : SV (cxOf CX0 P w K mg base nEvent "_law_event" (defScope sEvent) f cdv A outer s H E).nox ((defBody sEvent).drop 13)
        [some (.ref q), some (bkD b), some (.ref hd), some (.ref wd), some (.ref ud), some (.bl false), some (.int (b.n : Nat)), some (.lst ((["east", "west"] : List Str).map .str)), some (.lst ((["ann", "bob", "cy"] : List Str).map .str)), some (.str sh), some (.str who), some (itup have_), some (.int kind), z13, z14, z15, z16, z17, z18, z19, z20, z21, none, none, none]
        (μ.put q (drw xs a4)) { nx := fun _ μ' => k .non μ', rt := k } := by
      refine sv_one (s1_ret (ev_tup0 (av_cons0 (ev_str.is (av_cons0 ((ev_var 9 rfl).is (av_cons0 ((ev_var 10 rfl).is (av_cons0 (ev_callC cS (hr.mono (by omega)) ((av_cons (ev_var 0 rfl) (av_cons (ev_var 6 rfl) (av_cons ev_int av_nil))).is ⟨q, xs, a4, b.n, 9, rfl, Mem.put_same, dr, n6, by omega, fun g a5 g0 g1 => av_nil0 ⟨by simp, ?_⟩⟩)))))))))))
      rw [Mem.put_put]
      have z := hk (.forge (sh, who) g) a5 us ⟨⟨hpl, g0⟩, fun hist => rfl, nofun, fun _ => rfl, nofun⟩
      rw [same] at z
      exact z
    refine sv_cons (s1_if (tv_w (wv_and (tv_cmp (c := decide (kind = 6)) (ev_var 12 rfl) ev_int (rd_eq ⟨rfl, rfl⟩) ⟨fun _ => wv_and1 (tv_cmpN ((ev_var 3 rfl).is (ev_dnewK fun p2 np2 => rd_neE (u0 hr) (kvs := wayK way) ?_ Mem.put_same ⟨_, rfl, fun hne => sv_drop (sub_put np2) ?_, fun _ => sv_nil (sv_drop (sub_put np2) fin)⟩))), fun _ => ⟨nofun, fun _ => sv_nil fin⟩⟩))))
    · have hw : wd ≠ p2 := fun e => by subst e; rw [g2] at np2; cases np2
      rw [Mem.put_ne hw]
      exact g2 a4
    · have wne : way ≠ [] := fun e => by subst e; simp [wayK] at hne
      refine sv_cons (s1_set 22 nd ((EV.mono (ev_callB (id := "sorted") (k := fun d μ' => μ' = μ.put q (drw xs a4) ∧ ∃ ys : List Int, d = .lst (ys.map .int) ∧ ys.Perm (way.map (·.1))) (av_cons (ev_var 3 rfl) av_nil) (cd_sortedDI (ks := way.map (·.1)) rfl (g2 a4) (wayK_keys _) (by rw [List.length_map]; omega) fun ys hys _ => ⟨rfl, ys, rfl, hys⟩) B.sorted (by decide +kernel)) fun d μ' ⟨e1, ys, e2, hys⟩ => ?_)))
      subst e1 e2
      have yl : ys.length = way.length := by rw [hys.length_eq, List.length_map]
      have yp : 0 < ys.length := by rw [yl]; exact List.length_pos_iff.mpr wne
      refine sv_one (s1_ret (ev_tup0 (av_cons0 (ev_str.is (av_cons0 ((ev_var 9 rfl).is (av_cons0 ((ev_var 10 rfl).is (av_cons0 (ev_ix0 ((ev_var 22 rfl).is (ev_tk cT (hr.mono (by omega)) (ev_var 0 rfl) (ev_callB (av_cons (ev_var 22 rfl) av_nil) (cd_len (.inr .l) ⟨rfl, rfl⟩) B.len PySem.boot_len) Mem.put_same dr (by rw [List.length_map]; omega) fun v a5 h0 h1 => ?_))))))))))))
      obtain ⟨y, hy, hat⟩ := at_ints (xs := ys) h0 (by rw [List.length_map] at h1; exact h1)
      rw [Mem.put_put]
      refine rd_ixL rfl hat (av_nil0 ⟨by simp, ?_⟩)
      obtain ⟨g, hg⟩ : ∃ g, aget way y = some g := by
        have := hys.mem_iff.mp hy
        cases q : aget way y with
        | none => exact absurd this (aget_none.mp q)
        | some v => exact ⟨v, rfl⟩
      have z := hk (.land (sh, who) y) a5 us ⟨hpl, fun hist => rfl, nofun, fun _ => rfl, fun p t e => by cases e; exact ⟨g, hg⟩⟩
      rw [same] at z
      exact z
  -- behind the first if
  have tail : ∀ (a4 : Int) (z13 z14 z15 z16 z17 z18 : Option D), SV (cxOf CX0 P w K mg base nEvent "_law_event" (defScope sEvent) f cdv A outer s H E).nox ((defBody sEvent).drop 8)
      [some (.ref q), some (bkD b), some (.ref hd), some (.ref wd), some (.ref ud), some (.bl false), some (.int (b.n : Nat)), some (.lst ((["east", "west"] : List Str).map .str)), some (.lst ((["ann", "bob", "cy"] : List Str).map .str)), some (.str sh), some (.str who), some (itup have_), some (.int kind), z13, z14, z15, z16, z17, z18, none, none, none, none, none, none]
      (μ.put q (drw xs a4)) { nx := fun _ μ' => k .non μ', rt := k } := by
    intro a4 z13 z14 z15 z16 z17 z18
    refine sv_cons (s1_set 19 nd (ev_callT0 (T := "tuple") (av_cons0 (EV.mono (k := fun d μ' => ∃ (part : IL) (a5 : Int), d = .lst (part.map .int) ∧ μ' = μ.put q (drw xs a5) ∧ Ok b.n part ∧ ∀ i, i < b.n → at0 part i ≤ at0 have_ i) ?_ fun d μ' ⟨part, a5, e1, e2, p1, p2⟩ => ?_)) B.tuple bt_tuple))
    · refine ev_freeze (ev_lc (own := [("_law_entry", 24)]) 24 ((iv_tup (ev_var 11 rfl)).zero ⟨by rw [List.length_map, hv.len]; omega, fun pp npp => ⟨fun j acc μ' => ∃ (a8 : Int) (lo : IL), μ' = (μ.put q (drw xs a8)).put pp (.lst acc) ∧ acc = lo.map .int ∧ lo.length = j ∧ ∀ i, i < j → 0 ≤ at0 lo i ∧ at0 lo i ≤ at0 have_ i,
        ⟨a4, [], rfl, rfl, rfl, fun i hi => by omega⟩, fun j acc μ' hI => ?_, fun j d acc μ' s H C cl fp hd hI => ?_, fun acc μ' hI => ?_⟩⟩) sc_event)
      · obtain ⟨a8, lo, rfl, _⟩ := hI
        exact ⟨trivial, Mem.put_same⟩
      · obtain ⟨a8, lo, rfl, rfl, lol, lo1⟩ := hI
        obtain ⟨m2, m2'⟩ := ne_new npp
        obtain ⟨hjl, rfl⟩ := int_get hd
        rw [hv.len] at hjl
        have x0 := hv.nn j hjl
        refine ts_nil ⟨fun _ s H C cl fp => ?_, nofun⟩
        refine ev_tk cT (hr.mono (by omega)) (ev_var 0 rfl) (ev_bin (ev_var 24 rfl) ev_int (rd_add ⟨rfl, rfl⟩)) (by rw [Mem.put_ne m2]; exact Mem.put_same) dr (by omega) fun v a9 h0 h1 => ?_
        rw [mem2 m2]
        refine ⟨Mem.put_same, a9, lo ++ [v], by rw [Mem.put_put], by rw [List.map_append]; rfl, by rw [List.length_append, List.length_singleton, lol], fun i hi => ?_⟩
        by_cases hij : i < j
        · rw [at0_app1 (by omega)]
          exact lo1 i hij
        · have e0 : i = lo.length := by omega
          rw [e0, at0_app2, lol]
          omega
      · obtain ⟨a8, lo, rfl, rfl, lol, lo1⟩ := hI
        obtain ⟨m2, m2'⟩ := ne_new npp
        have hpn : (μ.put q (drw xs a8)) pp = none := by rw [Mem.put_ne (Ne.symm m2)]; exact m2'
        rw [List.length_map, hv.len] at lol lo1
        exact ⟨pp, _, μ.put q (drw xs a8), rfl, Mem.put_same, sub_put hpn, hpn, lo, a8, rfl, rfl, ⟨lol, fun i hi => (lo1 i hi).1⟩, fun i hi => (lo1 i hi).2⟩
    · subst e1 e2
      refine av_nil0 (cd_tuple (.inr .l) ?_)
      have cov : lcov (hget part.length held (sh, who)) part = true := by
        rw [p1.len, hvg]
        exact lcov_iff.mpr fun i hi => p2 i (by rw [hv.len] at hi; exact hi)
      refine sv_cons (s1_ifB (c1 := false) (tv_and2 (c1 := false) (c2 := false) (tv_val (ev_var 5 rfl)) fun h => by cases h) (fun h => by cases h) fun _ => sv_nil ?_)
      refine sv_cons (s1_ifB (c1 := decide (kind = 3) || decide (kind = 4)) (tv_or2 (tv_cmp (ev_var 12 rfl) ev_int (rd_eq ⟨rfl, rfl⟩) ⟨rfl, rfl⟩) fun _ => tv_cmp (ev_var 12 rfl) ev_int (rd_eq ⟨rfl, rfl⟩) ⟨rfl, rfl⟩) (fun _ => ?_) (fun _ => sv_nil ?_))
      · -- hand
        refine sv_cons (s1_set 20 nd (ev_ix0 ((ev_lcP (own := [("_law_name", 14)]) (k := Is (.lst (((["ann", "bob", "cy"] : List Str).filter fun z => !decide (z = who)).map .str)) _) 14 (iv_lst (ev_var 8 rfl)) (by simp) (fun i _ => !decide ((["ann", "bob", "cy"] : List Str).getD i "" = who)) (fun i _ => .str ((["ann", "bob", "cy"] : List Str).getD i "")) (fun _ _ => trivial)
          (fun i d μ' s H C cl fp hd _ => ?_) (fun i d μ' s H C cl fp hd hsub _ => ?_) (.inl ⟨?_, rfl⟩) sc_event).is (ev_tk cT (hr.mono (by omega)) (ev_var 0 rfl) ev_int Mem.put_same dr (by omega) fun v a6 h0 h1 => ?_))))
        · obtain ⟨y, hy, rfl⟩ : ∃ y, (["ann", "bob", "cy"] : List Str)[i]? = some y ∧ D.str y = d := by
            rw [List.getElem?_map] at hd
            cases q : (["ann", "bob", "cy"] : List Str)[i]? with
            | none => rw [q] at hd; cases hd
            | some e => rw [q] at hd; exact ⟨e, rfl, Option.some.inj hd⟩
          have ey : (["ann", "bob", "cy"] : List Str).getD i "" = y := by rw [List.getD_eq_getElem?_getD, hy]; rfl
          show TsV _ _ _ μ' (IsB (!decide ((["ann", "bob", "cy"] : List Str).getD i "" = who)) μ')
          rw [ey]
          exact ts_one (tv_cmp (ev_var 14 rfl) (ev_var 10 rfl) (rd_neS ⟨rfl, rfl⟩) ⟨rfl, rfl⟩)
        · obtain ⟨y, hy, rfl⟩ : ∃ y, (["ann", "bob", "cy"] : List Str)[i]? = some y ∧ D.str y = d := by
            rw [List.getElem?_map] at hd
            cases q : (["ann", "bob", "cy"] : List Str)[i]? with
            | none => rw [q] at hd; cases hd
            | some e => rw [q] at hd; exact ⟨e, rfl, Option.some.inj hd⟩
          have ey : (["ann", "bob", "cy"] : List Str).getD i "" = y := by rw [List.getD_eq_getElem?_getD, hy]; rfl
          show EV _ _ _ μ' (Is (.str ((["ann", "bob", "cy"] : List Str).getD i "")) μ')
          rw [ey]
          exact ev_var 14 rfl
        · rw [kept_filter (fun z => !decide (z = who)) D.str _ (["ann", "bob", "cy"] : List Str) _ _ (by simp)]
          intro i d x hd hx
          have ey : (["ann", "bob", "cy"] : List Str).getD i "" = x := by rw [List.getD_eq_getElem?_getD, hx]; rfl
          rw [ey]
          exact ⟨rfl, rfl⟩
        · obtain ⟨oth, ho, hat⟩ := at_strs (ss := (["ann", "bob", "cy"] : List Str).filter fun z => !decide (z = who)) h0 (by rw [others_two hwho]; exact h1)
          rw [Mem.put_put]
          refine rd_ixL rfl hat ?_
          refine sv_one (s1_ret (ev_tup (ds := [.str "hand", .str sh, .str who, .str oth, itup part]) (av_cons ev_str (av_cons (ev_var 9 rfl) (av_cons (ev_var 10 rfl) (av_cons (ev_var 20 rfl) (av_cons (ev_var 19 rfl) av_nil))))) (by simp) ?_))
          have z := hk (.hand (sh, who) oth part) a6 us ⟨⟨hpl, places_mem hsh (List.mem_filter.mp ho).1, p1⟩, fun hist => cov, nofun, fun _ => rfl, nofun⟩
          rw [same] at z
          exact z
      · refine sv_cons (s1_ifB (c1 := decide (kind = 5)) (tv_cmp (ev_var 12 rfl) ev_int (rd_eq ⟨rfl, rfl⟩) ⟨rfl, rfl⟩) (fun _ => ?_) (fun _ => sv_nil ?_))
        · -- send
          refine sv_cons (s1_set 21 nd (ev_binN (ev_int.is (ev_tk cT (hr.mono (by omega)) (ev_var 0 rfl) ev_int Mem.put_same dr (by omega) fun v a6 h0 h1 => rd_add ?_))))
          rw [Mem.put_put]
          refine sv_one (s1_ifB (c1 := !us.contains (1 + v)) (tv_cmp (ev_var 21 rfl) (ev_var 4 rfl) (rd_notIn (.inr (.m (g3 a6))) ⟨rfl, rfl⟩) ⟨rfl, rfl⟩) (fun hc => ?_) (fun _ => sv_nil ?_))
          · have hn : (1 + v) ∉ us := by simpa using hc
            refine sv_cons (s1_expr (ev_app (p := ud) (ds := us.map .int) (ev_var 4 rfl) (ev_var 21 rfl) (g3 a6) (g3 a6) (by rw [List.length_map]; omega) ?_))
            refine sv_one (s1_ret (ev_tup (ds := [.str "send", .str sh, .str who, .int (1 + v), itup part]) (av_cons ev_str (av_cons (ev_var 9 rfl) (av_cons (ev_var 10 rfl) (av_cons (ev_var 21 rfl) (av_cons (ev_var 19 rfl) av_nil))))) (by simp) ?_))
            have z := hk (.send (sh, who) (1 + v) part) a6 (us ++ [1 + v]) ⟨⟨hpl, p1⟩, fun hist => cov, fun p t g e => by cases e; exact ⟨hn, rfl⟩, fun h => absurd rfl (h _ _ _), nofun⟩
            rw [List.map_append] at z
            exact z
          · exact tail2 a6 _ _ _ _ _ _ _ _ _
        · exact tail2 _ _ _ _ _ _ _ _ _ _
  -- a make
  show SV _ _ [some (.ref q), some (bkD b), some (.ref hd), some (.ref wd), some (.ref ud), some (.bl false), some (.int (b.n : Nat)), some (.lst ((["east", "west"] : List Str).map .str)), some (.lst ((["ann", "bob", "cy"] : List Str).map .str)), some (.str sh), some (.str who), some (itup have_), some (.int kind),
    none, none, none, none, none, none, none, none, none, none, none, none] _ _
  refine sv_cons (s1_ifB (c1 := decide (kind < 3) && decide ((0 : Int) < ((b.mvs.map mvD).length : Nat))) (tv_and2 (tv_cmp (ev_var 12 rfl) ev_int (rd_lt ⟨rfl, rfl⟩) ⟨rfl, rfl⟩) fun _ => tv_cmp (ev_callB (av_cons (ev_ix (ev_var 1 rfl) ev_int (rd_ixT rfl rfl ⟨rfl, rfl⟩)) av_nil) (cd_len (.inl rfl) ⟨rfl, rfl⟩) B.len PySem.boot_len) ev_int (rd_gt ⟨rfl, rfl⟩) ⟨rfl, rfl⟩) (fun hc => ?_) (fun _ => sv_nil (tail a3 _ _ _ _ _ _)))
  have hmp : 0 < b.mvs.length := by
    rw [Bool.and_eq_true] at hc
    have := of_decide_eq_true hc.2
    rw [List.length_map] at this
    omega
  refine sv_cons (s1_set 13 nd (ev_tk cT (hr.mono (by omega)) (ev_var 0 rfl) (ev_callB (av_cons (ev_ix (ev_var 1 rfl) ev_int (rd_ixT rfl rfl ⟨rfl, rfl⟩)) av_nil) (cd_len (.inl rfl) ⟨rfl, rfl⟩) B.len PySem.boot_len) Mem.put_same dr (by rw [List.length_map]; omega) fun v a4 h0 h1 => ?_))
  rw [Mem.put_put]
  rw [List.length_map] at h1
  obtain ⟨m, rfl⟩ : ∃ m : Nat, v = (m : Int) := ⟨v.toNat, by omega⟩
  have hml : m < b.mvs.length := by omega
  have hm : atI (b.mvs.map mvD) (m : Int) = some (mvD (b.mvs.getD m default)) := atI_nat (by
    rw [List.getElem?_map, List.getElem?_eq_getElem hml, List.getD_eq_getElem?_getD, List.getElem?_eq_getElem hml]; rfl)
  have hmem := mv_mem hml
  obtain ⟨tk1, tk2⟩ := BO.tk _ hmem
  obtain ⟨hi1, hi2⟩ := BO.hi _ hmem
  obtain ⟨lo1, lo2⟩ := BO.lo _ hmem
  generalize hmv : b.mvs.getD m default = mv at hm tk1 tk2 hi1 hi2 lo1 lo2
  refine sv_cons (s1_asg ((ev_ix (k := Is (mvD mv) _) (ev_ix (ev_var 1 rfl) ev_int (rd_ixT rfl rfl ⟨rfl, rfl⟩)) (ev_var 13 rfl) (rd_ixT rfl hm ⟨rfl, rfl⟩)).is (gv_tup rfl (gvs_cons (gv_name 14 nd (gvs_cons (gv_name 15 nd (gvs_cons (gv_name 16 nd (gvs_cons (gv_name 17 nd (gvs_nil ?_))))))))))))
  show SV _ _ [some (.ref q), some (bkD b), some (.ref hd), some (.ref wd), some (.ref ud), some (.bl false), some (.int (b.n : Nat)), some (.lst ((["east", "west"] : List Str).map .str)), some (.lst ((["ann", "bob", "cy"] : List Str).map .str)), some (.str sh), some (.str who), some (itup have_), some (.int kind),
    some (.int (m : Nat)), some (.str mv.name), some (itup mv.take), some (itup mv.low), some (itup mv.high), none, none, none, none, none, none, none] _ _
  refine sv_cons (s1_set 18 nd (ev_callT0 (T := "tuple") (av_cons0 (EV.mono (k := fun d μ' => ∃ (gs : IL) (a5 : Int), d = .lst (gs.map .int) ∧ μ' = μ.put q (drw xs a5) ∧ Ok b.n gs ∧ ∀ i, i < b.n → at0 gs i ≤ at0 mv.high i) ?_ fun d μ' ⟨gs, a5, e1, e2, p1, p2⟩ => ?_)) B.tuple bt_tuple))
  · refine ev_freeze (ev_lc (own := [("_law_k", 23)]) 23 ((iv_range B.range (ev_var 6 rfl) (by omega) (by omega)).zero ⟨by simp; omega, fun pp npp => ⟨fun j acc μ' => ∃ (a8 : Int) (lo : IL), μ' = (μ.put q (drw xs a8)).put pp (.lst acc) ∧ acc = lo.map .int ∧ lo.length = j ∧ ∀ i, i < j → 0 ≤ at0 lo i ∧ at0 lo i ≤ at0 mv.high i,
      ⟨a4, [], rfl, rfl, rfl, fun i hi => by omega⟩, fun j acc μ' hI => ?_, fun j d acc μ' s H C cl fp hd hI => ?_, fun acc μ' hI => ?_⟩⟩) sc_event)
    · obtain ⟨a8, lo, rfl, _⟩ := hI
      exact ⟨trivial, Mem.put_same⟩
    · obtain ⟨a8, lo, rfl, rfl, lol, lol1⟩ := hI
      obtain ⟨m2, m2'⟩ := ne_new npp
      obtain ⟨hjl, rfl⟩ := rg_lt hd
      have hjl : j < b.n := by omega
      have x0 := lo1.nn j hjl
      have x1 := lo2 j hjl
      refine ts_nil ⟨fun _ s H C cl fp => ?_, nofun⟩
      refine ev_binN ((ev_ix (k := Is (.int (at0 mv.low j)) _) (ev_var 16 rfl) (ev_var 23 rfl) (rd_ixT rfl (it_at (by rw [lo1.len]; exact hjl)) ⟨rfl, rfl⟩)).is (ev_tk cT (hr.mono (by omega)) (ev_var 0 rfl) (ev_bin (ev_bin (ev_ix (ev_var 17 rfl) (ev_var 23 rfl) (rd_ixT rfl (it_at (by rw [hi1.len]; exact hjl)) ⟨rfl, rfl⟩)) (ev_ix (ev_var 16 rfl) (ev_var 23 rfl) (rd_ixT rfl (it_at (by rw [lo1.len]; exact hjl)) ⟨rfl, rfl⟩)) (rd_sub ⟨rfl, rfl⟩)) ev_int (rd_add ⟨rfl, rfl⟩)) (by rw [Mem.put_ne m2]; exact Mem.put_same) dr ?_ fun v a9 h0 h1 => rd_add ?_))
      · show 0 < at0 mv.high j - at0 mv.low j + 1
        omega
      · rw [mem2 m2]
        have h1 : v < at0 mv.high j - at0 mv.low j + 1 := h1
        refine ⟨Mem.put_same, a9, lo ++ [at0 mv.low j + v], by rw [Mem.put_put], by rw [List.map_append]; rfl, by rw [List.length_append, List.length_singleton, lol], fun i hi => ?_⟩
        by_cases hij : i < j
        · rw [at0_app1 (by omega)]
          exact lol1 i hij
        · have e0 : i = lo.length := by omega
          rw [e0, at0_app2, lol]
          omega
    · obtain ⟨a8, lo, rfl, rfl, lol, lol1⟩ := hI
      obtain ⟨m2, m2'⟩ := ne_new npp
      have hpn : (μ.put q (drw xs a8)) pp = none := by rw [Mem.put_ne (Ne.symm m2)]; exact m2'
      rw [rgD_len, Int.toNat_natCast] at lol lol1
      exact ⟨pp, _, μ.put q (drw xs a8), rfl, Mem.put_same, sub_put hpn, hpn, lo, a8, rfl, rfl, ⟨lol, fun i hi => (lol1 i hi).1⟩, fun i hi => (lol1 i hi).2⟩
  · subst e1 e2
    refine av_nil0 (cd_tuple (.inr .l) ?_)
    refine sv_one (s1_ifB (c1 := false || ((List.range b.n).map fun i => decide (at0 mv.take i ≤ at0 have_ i)).all id) (tv_or2 (c1 := false) (c2 := ((List.range b.n).map fun i => decide (at0 mv.take i ≤ at0 have_ i)).all id) (tv_val (ev_var 5 rfl)) fun _ => tv_val (ev_callB0 (id := "all") (av_cons0 ((ev_lcP (own := [("_law_k", 23)]) (k := Is (.lst (((List.range b.n).map fun i => decide (at0 mv.take i ≤ at0 have_ i)).map .bl)) _) 23
      (iv_range B.range (ev_var 6 rfl) (by omega) (by omega)) (by simp; omega) (fun _ _ => true) (fun i _ => .bl (decide (at0 mv.take i ≤ at0 have_ i))) (fun _ _ => trivial)
      (fun i d μ' s H C cl fp hd _ => ts_nil ⟨rfl, rfl⟩) (fun i d μ' s H C cl fp hd hsub _ => ?_) (.inl ⟨?_, rfl⟩) sc_event).is (av_nil0 (cd_all (bs := (List.range b.n).map fun i => decide (at0 mv.take i ≤ at0 have_ i)) rfl .l ⟨rfl, rfl⟩)))) B.all (by decide +kernel))) (fun hc => sv_one (s1_ret ?_)) (fun _ => sv_nil (tail a5 _ _ _ _ _ _)))
    · obtain ⟨hi, rfl⟩ := rg_lt hd
      have hi : i < b.n := by omega
      exact ev_cmp (ev_ix (ev_var 11 rfl) (ev_var 23 rfl) (rd_ixT rfl (it_at (by rw [hv.len]; exact hi)) ⟨rfl, rfl⟩)) (ev_ix (ev_var 15 rfl) (ev_var 23 rfl) (rd_ixT rfl (it_at (by rw [tk1.len]; exact hi)) ⟨rfl, rfl⟩)) (rd_ge ⟨rfl, rfl⟩)
    · rw [kept_rg, Int.toNat_natCast, List.map_map]
      rfl
    · have cov : lcov (hget mv.take.length held (sh, who)) mv.take = true := by
        rw [tk1.len, hvg]
        unfold lcov
        rw [hv.len]
        simpa using hc
      refine ev_tup (ds := [.str "make", .str sh, .str who, .int (m : Nat), itup gs]) (av_cons ev_str (av_cons (ev_var 9 rfl) (av_cons (ev_var 10 rfl) (av_cons (ev_var 13 rfl) (av_cons (ev_var 18 rfl) av_nil))))) (by simp) ?_
      have z := hk (.make (sh, who) m gs) a5 us ⟨⟨hpl, hml, p1, by rw [hmv]; exact p2⟩, fun hist => by
        show lcov (hget (b.mvs.getD m default).take.length held (sh, who)) (b.mvs.getD m default).take = true
        rw [hmv]; exact cov, nofun, fun _ => rfl, nofun⟩
      rw [same] at z
      exact z
end
end Mw
set_option Elab.async false
set_option linter.all false
set_option maxRecDepth 100000
set_option maxHeartbeats 4000000
namespace Mw
open PySem PySem.Spec PyProof.Rows L2 DL Mh
abbrev sLFlow : Stmt := top 46
theorem sc_lflow : FnScope ["_law_book_here", "_law_history_here", "_law_event_here", "_law_n", "_law_place", "_law_sent", "_law_one"] ["_law_book_here", "_law_history_here", "_law_event_here"] (defScope sLFlow) := ⟨rfl, rfl, rfl, by decide +kernel, rfl, by decide +kernel, by decide +kernel⟩
def pdLFlow : PD := fun ds μ k => ∃ (b : Bk) (hs : List Ev) (e : Ev), ds = [bkD b, .lst (hs.map evD), evD e] ∧ FlowOk b hs e ∧ b.n ≤ 100 ∧ hs.length ≤ 100 ∧ k (rowD (flow b hs e)) μ
abbrev sDone : Stmt := top 47
theorem sc_done : FnScope ["_law_book_here", "_law_history_here", "_law_held", "_law_way_here", "_law_event_here", "_law_n", "_law_taker", "_law_take_here", "_law_getter", "_law_give", "_law_have", "_law_k"] ["_law_book_here", "_law_history_here", "_law_held", "_law_way_here", "_law_event_here"] (defScope sDone) := ⟨rfl, rfl, rfl, by decide +kernel, rfl, by decide +kernel, by decide +kernel⟩
def pdDone : PD := fun ds μ k => ∃ (b : Bk) (hs : List Ev) (s : HS) (e : Ev) (hd wd : Addr), ds = [bkD b, .lst (hs.map evD), .ref hd, .ref wd, evD e] ∧ μ hd = some (.dT (heldK s.held)) ∧ μ wd = some (.dK (wayK s.way)) ∧ BOk b ∧ SOk b.n s ∧ Fits b hs s e ∧ s.way.length ≤ 60 ∧ hs.length ≤ 100 ∧
  k (.bl true) ((μ.put hd (.dT (heldK (carry s.held (flow b hs e))))).put wd (.dK (wayK (wayStep s.way e))))
def isSend (t : Int) : Ev → Bool
  | .send _ u _ => decide (u = t)
  | _ => false
def partOf : Ev → IL
  | .send _ _ g => g
  | _ => []
theorem sentOf_filter (hs : List Ev) (t : Int) : ((hs.filter (isSend t)).map partOf)[0]? = sentOf hs t := by
  unfold sentOf
  induction hs with
  | nil => rfl
  | cons e hs ih =>
    rw [List.findSome?_cons]
    cases e with
    | send p u g =>
      by_cases h : u = t
      · rw [List.filter_cons_of_pos (by simp [isSend, h])]
        simp [h, partOf]
      · rw [List.filter_cons_of_neg (by simp [isSend, h])]
        simp only [if_neg h]
        exact ih
    | make p m g => exact ih
    | hand p m g => exact ih
    | land p m => exact ih
    | forge p g => exact ih
section
variable {P : Program} {w : World} {K : PySem.W.Frag} {mg : Str → Option Value} {base : Heap} {f : Addr} {fd : FuncData}
theorem ok_lflow (F : FunD K "_law_flow" "_law_flow" (defArgs sLFlow) (defBody sLFlow) (defScope sLFlow) [] [] f fd) (B : Bt mg) : FnOk P w K mg base CX0 1 f fd ["_law_book_here", "_law_history_here", "_law_event_here"] (dsp K pdLFlow) := by
  refine fn_dl F sc_lflow (fun ds μ k h => by obtain ⟨b, hs, e, rfl, _⟩ := h; rfl) fun cdv A outer s H E hr ds μ k h => ?_
  obtain ⟨b, hs, e, rfl, hok, hn, hl, hk⟩ := h
  have nd := sc_lflow.nd
  have ez : (.tup (List.replicate ((b.n : Nat) : Int).toNat [D.int 0]).flatten : D) = itup (zero b.n) := by rw [← zeroD]; simp
  have hzero : ∀ {X : Cx} {δ : DS} {m0 : Mem} {e0 : Expr} {p1 p2 p3 : Pos} {j1 j2 : Nat}, EV X e0 δ m0 (Is (.int (b.n : Nat)) m0) → EV X (.BinOp (.Tuple [.Constant (.int 0) j1 p1] j2 p2) .Mult e0 p3) δ m0 (Is (itup (zero b.n)) m0) := fun {X δ m0 e0 p1 p2 p3 j1 j2} h =>
    ev_bin (ev_tup (av_cons ev_int av_nil rfl) (by simp) ⟨rfl, rfl⟩) h (rd_repT rfl (by simp) (by simp) (by omega) (by omega) ⟨ez, rfl⟩)
  refine sv_cons (s1_set 3 nd ((ev_callB (av_cons (ev_ix (ev_var 0 rfl) ev_int (rd_ixT rfl rfl ⟨rfl, rfl⟩)) av_nil) (cd_len (k := Is (.int (b.n : Nat)) μ) (.inl rfl) ⟨by simp [Bk.n], rfl⟩) B.len PySem.boot_len).is ?_))
  cases e with
  | make p m g =>
    refine sv_cons (s1_set 4 nd ((ev_tup (av_cons (ev_ix (ev_var 2 rfl) ev_int (rd_ixT rfl rfl ⟨rfl, rfl⟩)) (av_cons (ev_ix (ev_var 2 rfl) ev_int (rd_ixT rfl rfl ⟨rfl, rfl⟩)) av_nil)) (by simp) ⟨rfl, rfl⟩).is ?_))
    refine sv_cons (s1_ifB (c1 := true) (tv_cmp (ev_ix (ev_var 2 rfl) ev_int (rd_ixT rfl rfl ⟨rfl, rfl⟩)) ev_str (rd_eqS ⟨rfl, rfl⟩) ⟨rfl, rfl⟩) (fun _ => ?_) fun h => by cases h)
    have hm : atI (b.mvs.map mvD) (m : Int) = some (mvD (b.mvs.getD m default)) := atI_nat (by
      have hlt : m < b.mvs.length := hok
      rw [List.getElem?_map, List.getElem?_eq_getElem hlt, List.getD_eq_getElem?_getD, List.getElem?_eq_getElem hlt]; rfl)
    exact sv_one (s1_ret (ev_tup (av_cons (ev_var 4 rfl) (av_cons (ev_ix (ev_ix (ev_ix (ev_var 0 rfl) ev_int (rd_ixT rfl rfl ⟨rfl, rfl⟩)) (ev_ix (ev_var 2 rfl) ev_int (rd_ixT rfl rfl ⟨rfl, rfl⟩)) (rd_ixT rfl hm ⟨rfl, rfl⟩)) ev_int (rd_ixT rfl rfl ⟨rfl, rfl⟩)) (av_cons (ev_var 4 rfl) (av_cons (ev_ix (ev_var 2 rfl) ev_int (rd_ixT rfl rfl ⟨rfl, rfl⟩)) av_nil)))) (by simp) hk))
  | hand p o g =>
    refine sv_cons (s1_set 4 nd ((ev_tup (av_cons (ev_ix (ev_var 2 rfl) ev_int (rd_ixT rfl rfl ⟨rfl, rfl⟩)) (av_cons (ev_ix (ev_var 2 rfl) ev_int (rd_ixT rfl rfl ⟨rfl, rfl⟩)) av_nil)) (by simp) ⟨rfl, rfl⟩).is ?_))
    refine sv_cons (s1_ifB (c1 := false) (tv_cmp (ev_ix (ev_var 2 rfl) ev_int (rd_ixT rfl rfl ⟨rfl, rfl⟩)) ev_str (rd_eqS ⟨rfl, rfl⟩) ⟨by decide, rfl⟩) (fun h => by cases h) fun _ => sv_nil ?_)
    refine sv_cons (s1_ifB (c1 := true) (tv_cmp (ev_ix (ev_var 2 rfl) ev_int (rd_ixT rfl rfl ⟨rfl, rfl⟩)) ev_str (rd_eqS ⟨rfl, rfl⟩) ⟨rfl, rfl⟩) (fun _ => ?_) fun h => by cases h)
    exact sv_one (s1_ret (ev_tup (av_cons (ev_var 4 rfl) (av_cons (ev_ix (ev_var 2 rfl) ev_int (rd_ixT rfl rfl ⟨rfl, rfl⟩)) (av_cons (ev_tup (av_cons (ev_ix (ev_var 2 rfl) ev_int (rd_ixT rfl rfl ⟨rfl, rfl⟩)) (av_cons (ev_ix (ev_var 2 rfl) ev_int (rd_ixT rfl rfl ⟨rfl, rfl⟩)) av_nil)) (by simp) ⟨rfl, rfl⟩) (av_cons (ev_ix (ev_var 2 rfl) ev_int (rd_ixT rfl rfl ⟨rfl, rfl⟩)) av_nil)))) (by simp) hk))
  | send p t g =>
    refine sv_cons (s1_set 4 nd ((ev_tup (av_cons (ev_ix (ev_var 2 rfl) ev_int (rd_ixT rfl rfl ⟨rfl, rfl⟩)) (av_cons (ev_ix (ev_var 2 rfl) ev_int (rd_ixT rfl rfl ⟨rfl, rfl⟩)) av_nil)) (by simp) ⟨rfl, rfl⟩).is ?_))
    refine sv_cons (s1_ifB (c1 := false) (tv_cmp (ev_ix (ev_var 2 rfl) ev_int (rd_ixT rfl rfl ⟨rfl, rfl⟩)) ev_str (rd_eqS ⟨rfl, rfl⟩) ⟨by decide, rfl⟩) (fun h => by cases h) fun _ => sv_nil ?_)
    refine sv_cons (s1_ifB (c1 := false) (tv_cmp (ev_ix (ev_var 2 rfl) ev_int (rd_ixT rfl rfl ⟨rfl, rfl⟩)) ev_str (rd_eqS ⟨rfl, rfl⟩) ⟨by decide, rfl⟩) (fun h => by cases h) fun _ => sv_nil ?_)
    refine sv_cons (s1_ifB (c1 := true) (tv_cmp (ev_ix (ev_var 2 rfl) ev_int (rd_ixT rfl rfl ⟨rfl, rfl⟩)) ev_str (rd_eqS ⟨rfl, rfl⟩) ⟨rfl, rfl⟩) (fun _ => ?_) fun h => by cases h)
    exact sv_one (s1_ret (ev_tup (av_cons (ev_var 4 rfl) (av_cons (ev_ix (ev_var 2 rfl) ev_int (rd_ixT rfl rfl ⟨rfl, rfl⟩)) (av_cons ev_non (av_cons (hzero (ev_var 3 rfl)) av_nil)))) (by simp) hk))
  | land p t =>
    obtain ⟨g, hg⟩ := hok
    refine sv_cons (s1_set 4 nd ((ev_tup (av_cons (ev_ix (ev_var 2 rfl) ev_int (rd_ixT rfl rfl ⟨rfl, rfl⟩)) (av_cons (ev_ix (ev_var 2 rfl) ev_int (rd_ixT rfl rfl ⟨rfl, rfl⟩)) av_nil)) (by simp) ⟨rfl, rfl⟩).is ?_))
    refine sv_cons (s1_ifB (c1 := false) (tv_cmp (ev_ix (ev_var 2 rfl) ev_int (rd_ixT rfl rfl ⟨rfl, rfl⟩)) ev_str (rd_eqS ⟨rfl, rfl⟩) ⟨by decide, rfl⟩) (fun h => by cases h) fun _ => sv_nil ?_)
    refine sv_cons (s1_ifB (c1 := false) (tv_cmp (ev_ix (ev_var 2 rfl) ev_int (rd_ixT rfl rfl ⟨rfl, rfl⟩)) ev_str (rd_eqS ⟨rfl, rfl⟩) ⟨by decide, rfl⟩) (fun h => by cases h) fun _ => sv_nil ?_)
    refine sv_cons (s1_ifB (c1 := false) (tv_cmp (ev_ix (ev_var 2 rfl) ev_int (rd_ixT rfl rfl ⟨rfl, rfl⟩)) ev_str (rd_eqS ⟨rfl, rfl⟩) ⟨by decide, rfl⟩) (fun h => by cases h) fun _ => sv_nil ?_)
    refine sv_cons (s1_ifB (c1 := true) (tv_cmp (ev_ix (ev_var 2 rfl) ev_int (rd_ixT rfl rfl ⟨rfl, rfl⟩)) ev_str (rd_eqS ⟨rfl, rfl⟩) ⟨rfl, rfl⟩) (fun _ => ?_) fun h => by cases h)
    have e1 : rowD (flow b hs (.land p t)) = .tup [.non, itup (zero b.n), plD p, itup g] := by
      show rowD ⟨none, zero b.n, some p, (sentOf hs t).getD []⟩ = _
      rw [hg]; rfl
    rw [e1] at hk
    have get : ∀ {i : Nat} {d : D}, (hs.map evD)[i]? = some d → hs[i]? = some (evAt hs i) ∧ d = evD (evAt hs i) := fun {i d} hd => by
      rw [List.getElem?_map] at hd
      cases q : hs[i]? with
      | none => rw [q] at hd; cases hd
      | some e => rw [q] at hd; cases hd; rw [evAt_of q]; exact ⟨rfl, rfl⟩
    refine sv_cons (s1_setLcP (own := [("_law_one", 6)]) 5 6 (iv_lst (ev_var 1 rfl)) (by simp; omega) (fun i _ => isSend t (evAt hs i)) (fun i _ => itup (partOf (evAt hs i))) (fun _ _ => trivial) (fun i d μ' s H C cl fp hd hsub => ?_) (fun i d μ' s H C cl fp hd hsub hf => ?_) (fun pp npp => ?_) sc_lflow (sw_true rfl rfl rfl (by decide +kernel)))
    · obtain ⟨he, rfl⟩ := get hd
      show TsV _ _ _ μ' (IsB (isSend t (evAt hs i)) μ')
      generalize evAt hs i = o
      cases o with
      | send p2 u g2 => exact ts_one (tv_and2 (c1 := true) (c2 := decide (u = t)) (tv_cmp (ev_ix (ev_var 6 rfl) ev_int (rd_ixT rfl rfl ⟨rfl, rfl⟩)) ev_str (rd_eqS ⟨rfl, rfl⟩) ⟨rfl, rfl⟩) fun _ => tv_cmp (ev_ix (ev_var 6 rfl) ev_int (rd_ixT rfl rfl ⟨rfl, rfl⟩)) (ev_ix (ev_var 2 rfl) ev_int (rd_ixT rfl rfl ⟨rfl, rfl⟩)) (rd_eq ⟨rfl, rfl⟩) ⟨rfl, rfl⟩)
      | make p2 u g2 => exact ts_one (tv_and2 (c1 := false) (c2 := false) (tv_cmp (ev_ix (ev_var 6 rfl) ev_int (rd_ixT rfl rfl ⟨rfl, rfl⟩)) ev_str (rd_eqS ⟨rfl, rfl⟩) ⟨by decide, rfl⟩) nofun)
      | hand p2 u g2 => exact ts_one (tv_and2 (c1 := false) (c2 := false) (tv_cmp (ev_ix (ev_var 6 rfl) ev_int (rd_ixT rfl rfl ⟨rfl, rfl⟩)) ev_str (rd_eqS ⟨rfl, rfl⟩) ⟨by decide, rfl⟩) nofun)
      | land p2 u => exact ts_one (tv_and2 (c1 := false) (c2 := false) (tv_cmp (ev_ix (ev_var 6 rfl) ev_int (rd_ixT rfl rfl ⟨rfl, rfl⟩)) ev_str (rd_eqS ⟨rfl, rfl⟩) ⟨by decide, rfl⟩) nofun)
      | forge p2 g2 => exact ts_one (tv_and2 (c1 := false) (c2 := false) (tv_cmp (ev_ix (ev_var 6 rfl) ev_int (rd_ixT rfl rfl ⟨rfl, rfl⟩)) ev_str (rd_eqS ⟨rfl, rfl⟩) ⟨by decide, rfl⟩) nofun)
    · obtain ⟨he, rfl⟩ := get hd
      have hf : isSend t (evAt hs i) = true := hf
      show EV _ _ _ μ' (Is (itup (partOf (evAt hs i))) μ')
      generalize evAt hs i = o at hf
      cases o with
      | send p2 u g2 => exact ev_ix (ev_var 6 rfl) ev_int (rd_ixT rfl rfl ⟨rfl, rfl⟩)
      | make p2 u g2 => cases hf
      | hand p2 u g2 => cases hf
      | land p2 u => cases hf
      | forge p2 g2 => cases hf
    · refine sv_freeze (μ2 := μ) 5 rfl Mem.put_same (sub_put npp) npp ?_
      rw [kept_filter (isSend t) (fun o => itup (partOf o)) _ hs _ _ (by simp) fun i d x hd hx => by rw [evAt_of hx]; exact ⟨rfl, rfl⟩]
      have h0 : atI ((hs.filter (isSend t)).map fun o => itup (partOf o)) 0 = some (itup g) := by
        have e2 : ((hs.filter (isSend t)).map fun o => itup (partOf o)) = ((hs.filter (isSend t)).map partOf).map itup := by rw [List.map_map]; rfl
        rw [e2]
        exact atI_nat (j := 0) (by rw [List.getElem?_map, sentOf_filter, hg]; rfl)
      exact sv_one (s1_ret (ev_tup (av_cons ev_non (av_cons (hzero (ev_var 3 rfl)) (av_cons (ev_var 4 rfl) (av_cons (ev_ix (ev_var 5 rfl) ev_int (rd_ixL rfl h0 ⟨rfl, rfl⟩)) av_nil)))) (by simp) hk))
  | forge p g =>
    refine sv_cons (s1_set 4 nd ((ev_tup (av_cons (ev_ix (ev_var 2 rfl) ev_int (rd_ixT rfl rfl ⟨rfl, rfl⟩)) (av_cons (ev_ix (ev_var 2 rfl) ev_int (rd_ixT rfl rfl ⟨rfl, rfl⟩)) av_nil)) (by simp) ⟨rfl, rfl⟩).is ?_))
    refine sv_cons (s1_ifB (c1 := false) (tv_cmp (ev_ix (ev_var 2 rfl) ev_int (rd_ixT rfl rfl ⟨rfl, rfl⟩)) ev_str (rd_eqS ⟨rfl, rfl⟩) ⟨by decide, rfl⟩) (fun h => by cases h) fun _ => sv_nil ?_)
    refine sv_cons (s1_ifB (c1 := false) (tv_cmp (ev_ix (ev_var 2 rfl) ev_int (rd_ixT rfl rfl ⟨rfl, rfl⟩)) ev_str (rd_eqS ⟨rfl, rfl⟩) ⟨by decide, rfl⟩) (fun h => by cases h) fun _ => sv_nil ?_)
    refine sv_cons (s1_ifB (c1 := false) (tv_cmp (ev_ix (ev_var 2 rfl) ev_int (rd_ixT rfl rfl ⟨rfl, rfl⟩)) ev_str (rd_eqS ⟨rfl, rfl⟩) ⟨by decide, rfl⟩) (fun h => by cases h) fun _ => sv_nil ?_)
    refine sv_cons (s1_ifB (c1 := false) (tv_cmp (ev_ix (ev_var 2 rfl) ev_int (rd_ixT rfl rfl ⟨rfl, rfl⟩)) ev_str (rd_eqS ⟨rfl, rfl⟩) ⟨by decide, rfl⟩) (fun h => by cases h) fun _ => sv_nil ?_)
    exact sv_one (s1_ret (ev_tup (av_cons ev_non (av_cons (hzero (ev_var 3 rfl)) (av_cons (ev_var 4 rfl) (av_cons (ev_ix (ev_var 2 rfl) ev_int (rd_ixT rfl rfl ⟨rfl, rfl⟩)) av_nil)))) (by simp) hk))
end
end Mw
set_option Elab.async false
set_option linter.all false
set_option maxRecDepth 100000
set_option maxHeartbeats 4000000
namespace Mw
open PySem PySem.Spec PyProof.Rows L2 DL Mh
section
variable {P : Program} {w : World} {K : PySem.W.Frag} {mg : Str → Option Value} {base : Heap} {f : Addr} {fd : FuncData}
theorem ok_done (F : FunD K "_law_done" "_law_done" (defArgs sDone) (defBody sDone) (defScope sDone) [] [] f fd) (B : Bt mg) (cF : Cal P w K mg base "_law_flow" 1 pdLFlow) : FnOk P w K mg base CX0 2 f fd ["_law_book_here", "_law_history_here", "_law_held", "_law_way_here", "_law_event_here"] (dsp K pdDone) := by
  refine fn_dl F sc_done (fun ds μ k h => by obtain ⟨b, hs, s, e, hd, wd, rfl, _⟩ := h; rfl) fun cdv A outer sh H E hr ds μ k h => ?_
  obtain ⟨b, hs, s, e, hd, wd, rfl, hh, hw, BO, so, Fi, wl, hl, hk⟩ := h
  have nd := sc_done.nd
  have hne : hd ≠ wd := fun q => by subst q; rw [hh] at hw; cases hw
  have n6 := BO.n6
  have R := Fi.row BO so
  have pos := Fi.pos
  have h0 := put_id hh
  have hz := Mw.SOk.held_len so
  have ez : (.tup (List.replicate ((b.n : Nat) : Int).toNat [D.int 0]).flatten : D) = itup (zero b.n) := by rw [← zeroD]; simp
  refine sv_cons (s1_set 5 nd ((ev_callB (av_cons (ev_ix (ev_var 0 rfl) ev_int (rd_ixT rfl rfl ⟨rfl, rfl⟩)) av_nil) (cd_len (k := Is (.int (b.n : Nat)) μ) (.inl rfl) ⟨by simp [Bk.n], rfl⟩) B.len PySem.boot_len).is ?_))
  refine sv_cons (s1_asg ((ev_callC (k := Is (rowD (flow b hs e)) μ) cF (hr.mono (by omega)) ((av_cons (ev_var 0 rfl) (av_cons (ev_var 1 rfl) (av_cons (ev_var 4 rfl) av_nil))).is ⟨b, hs, e, rfl, Mw.Fits.flowOk Fi, by omega, hl, ⟨rfl, rfl⟩⟩)).is (gv_tup rfl (gvs_cons (gv_name 6 nd (gvs_cons (gv_name 7 nd (gvs_cons (gv_name 8 nd (gvs_cons (gv_name 9 nd (gvs_nil ?_))))))))))))
  generalize hfl : flow b hs e = r at R pos hk
  obtain ⟨taker, take, getter, give⟩ := r
  show SV _ _ [some (bkD b), some (.lst (hs.map evD)), some (.ref hd), some (.ref wd), some (evD e), some (.int (b.n : Nat)), some (optP taker), some (itup take), some (optP getter), some (itup give), none, none] _ _
  have last : ∀ z10 : Option D, SV (cxOf CX0 P w K mg base ["_law_book_here", "_law_history_here", "_law_held", "_law_way_here", "_law_event_here", "_law_n", "_law_taker", "_law_take_here", "_law_getter", "_law_give", "_law_have", "_law_k"] "_law_done" (defScope sDone) f cdv A outer sh H E).nox ((defBody sDone).drop 4)
      [some (bkD b), some (.lst (hs.map evD)), some (.ref hd), some (.ref wd), some (evD e), some (.int (b.n : Nat)), some (optP taker), some (itup take), some (optP getter), some (itup give), z10, none]
      (μ.put hd (.dT (heldK (carry s.held ⟨taker, take, getter, give⟩)))) { nx := fun _ μ' => k .non μ', rt := k } := by
    intro z10
    have hw' : (μ.put hd (.dT (heldK (carry s.held ⟨taker, take, getter, give⟩)))) wd = some (.dK (wayK s.way)) := by rw [Mem.put_ne (Ne.symm hne)]; exact hw
    have wz : (wayK s.way).length < 100000 := by simp only [wayK, List.length_map]; omega
    have keep : wayStep s.way e = s.way → (μ.put hd (.dT (heldK (carry s.held ⟨taker, take, getter, give⟩)))) = ((μ.put hd (.dT (heldK (carry s.held ⟨taker, take, getter, give⟩)))).put wd (.dK (wayK (wayStep s.way e)))) := fun q => by rw [q]; exact (put_id hw').symm
    cases e with
    | send p t g =>
      refine sv_cons (s1_ifB (c1 := true) (tv_cmp (ev_ix (ev_var 4 rfl) ev_int (rd_ixT rfl rfl ⟨rfl, rfl⟩)) ev_str (rd_eqS ⟨rfl, rfl⟩) ⟨rfl, rfl⟩) (fun _ => sv_one ?_) fun h => by cases h)
      refine s1_dput (p := wd) (kvs := wayK s.way) (y := Sum.inl t) (u1 hr) ((ev_ix (ev_var 4 rfl) ev_int (rd_ixT rfl rfl ⟨rfl, rfl⟩)).is ((ev_var 3 rfl).is ⟨rfl, (ev_ix (ev_var 4 rfl) ev_int (rd_ixT rfl rfl ⟨rfl, rfl⟩)).is ⟨rfl, hw', wz, ?_⟩⟩))
      rw [put_way]
      refine sv_cons (s1_ifB (c1 := false) (tv_cmp (ev_ix (ev_var 4 rfl) ev_int (rd_ixT rfl rfl ⟨rfl, rfl⟩)) ev_str (rd_eqS ⟨rfl, rfl⟩) ⟨by decide, rfl⟩) (fun h => by cases h) fun _ => sv_nil ?_)
      exact sv_one (s1_ret (ev_bl.is hk))
    | land p t =>
      obtain ⟨g, hg, _⟩ := Fi.land p t rfl
      refine sv_cons (s1_ifB (c1 := false) (tv_cmp (ev_ix (ev_var 4 rfl) ev_int (rd_ixT rfl rfl ⟨rfl, rfl⟩)) ev_str (rd_eqS ⟨rfl, rfl⟩) ⟨by decide, rfl⟩) (fun h => by cases h) fun _ => sv_nil ?_)
      refine sv_cons (s1_ifB (c1 := true) (tv_cmp (ev_ix (ev_var 4 rfl) ev_int (rd_ixT rfl rfl ⟨rfl, rfl⟩)) ev_str (rd_eqS ⟨rfl, rfl⟩) ⟨rfl, rfl⟩) (fun _ => sv_one ?_) fun h => by cases h)
      refine s1_expr (ev_pop (p := wd) (kvs := wayK s.way) (y := Sum.inl t) (d := itup g) (ev_var 3 rfl) (ev_ix (ev_var 4 rfl) ev_int (rd_ixT rfl rfl ⟨rfl, rfl⟩)) hw' hw' (by rw [look_way, hg]; rfl) ?_ ⟨rfl, rfl, rfl, rfl⟩)
      rw [drop_way]
      exact sv_one (s1_ret (ev_bl.is hk))
    | make p m g =>
      refine sv_cons (s1_ifB (c1 := false) (tv_cmp (ev_ix (ev_var 4 rfl) ev_int (rd_ixT rfl rfl ⟨rfl, rfl⟩)) ev_str (rd_eqS ⟨rfl, rfl⟩) ⟨by decide, rfl⟩) (fun h => by cases h) fun _ => sv_nil ?_)
      refine sv_cons (s1_ifB (c1 := false) (tv_cmp (ev_ix (ev_var 4 rfl) ev_int (rd_ixT rfl rfl ⟨rfl, rfl⟩)) ev_str (rd_eqS ⟨rfl, rfl⟩) ⟨by decide, rfl⟩) (fun h => by cases h) fun _ => sv_nil ?_)
      exact sv_one (s1_ret (ev_bl.is (by show k _ _; rw [keep rfl]; exact hk)))
    | hand p m g =>
      refine sv_cons (s1_ifB (c1 := false) (tv_cmp (ev_ix (ev_var 4 rfl) ev_int (rd_ixT rfl rfl ⟨rfl, rfl⟩)) ev_str (rd_eqS ⟨rfl, rfl⟩) ⟨by decide, rfl⟩) (fun h => by cases h) fun _ => sv_nil ?_)
      refine sv_cons (s1_ifB (c1 := false) (tv_cmp (ev_ix (ev_var 4 rfl) ev_int (rd_ixT rfl rfl ⟨rfl, rfl⟩)) ev_str (rd_eqS ⟨rfl, rfl⟩) ⟨by decide, rfl⟩) (fun h => by cases h) fun _ => sv_nil ?_)
      exact sv_one (s1_ret (ev_bl.is (by show k _ _; rw [keep rfl]; exact hk)))
    | forge p g =>
      refine sv_cons (s1_ifB (c1 := false) (tv_cmp (ev_ix (ev_var 4 rfl) ev_int (rd_ixT rfl rfl ⟨rfl, rfl⟩)) ev_str (rd_eqS ⟨rfl, rfl⟩) ⟨by decide, rfl⟩) (fun h => by cases h) fun _ => sv_nil ?_)
      refine sv_cons (s1_ifB (c1 := false) (tv_cmp (ev_ix (ev_var 4 rfl) ev_int (rd_ixT rfl rfl ⟨rfl, rfl⟩)) ev_str (rd_eqS ⟨rfl, rfl⟩) ⟨by decide, rfl⟩) (fun h => by cases h) fun _ => sv_nil ?_)
      exact sv_one (s1_ret (ev_bl.is (by show k _ _; rw [keep rfl]; exact hk)))
  have second : ∀ (h2 : Held) (z10 : Option D), SOk b.n ⟨h2, s.way⟩ → takeOut s.held ⟨taker, take, getter, give⟩ = h2 →
      SV (cxOf CX0 P w K mg base ["_law_book_here", "_law_history_here", "_law_held", "_law_way_here", "_law_event_here", "_law_n", "_law_taker", "_law_take_here", "_law_getter", "_law_give", "_law_have", "_law_k"] "_law_done" (defScope sDone) f cdv A outer sh H E).nox ((defBody sDone).drop 3)
      [some (bkD b), some (.lst (hs.map evD)), some (.ref hd), some (.ref wd), some (evD e), some (.int (b.n : Nat)), some (optP taker), some (itup take), some (optP getter), some (itup give), z10, none]
      (μ.put hd (.dT (heldK h2))) { nx := fun _ μ' => k .non μ', rt := k } := by
    intro h2 z10 so2 e0
    have hh2 : (μ.put hd (.dT (heldK h2))) hd = some (.dT (heldK h2)) := Mem.put_same
    cases getter with
    | none =>
      refine sv_cons (s1_ifB (c1 := false) (tv_notN (ev_var 8 rfl) ⟨rfl, rfl⟩) (fun h => by cases h) fun _ => sv_nil ?_)
      have e1 : carry s.held ⟨taker, take, none, give⟩ = h2 := e0
      have z := last z10
      rw [e1] at z
      exact z
    | some p =>
      obtain ⟨gok, hpl⟩ := R.gv p rfl
      have gl : give.length = b.n := gok.len
      have hz2 : h2.length ≤ 6 := Mw.SOk.held_len so2
      have vl : (hget b.n h2 p).length = b.n := (hget_ok so2 p).len
      refine sv_cons (s1_ifB (c1 := true) (tv_notN (ev_var 8 rfl) ⟨rfl, rfl⟩) (fun _ => ?_) fun h => by cases h)
      refine sv_cons (s1_set 10 nd ((ev_getT (p := hd) (kvs := heldK h2) (y := plK p) (dx := itup (zero b.n)) (k := Is (itup (hget b.n h2 p)) _) (u1 hr) (ev_var 2 rfl) (ev_var 8 rfl)
        (ev_bin (ev_tup (av_cons ev_int av_nil) (by simp) ⟨rfl, rfl⟩) (ev_var 5 rfl) (rd_repT rfl (by simp) (by simp) (by omega) (by omega) ⟨ez, rfl⟩)) hh2 hh2 ⟨held_getD b.n h2 p, rfl⟩ ⟨rfl, rfl, rfl, rfl⟩).is ?_))
      refine sv_one (s1_dputT (p := hd) (kvs := heldK h2) (y := plK p) (u1 hr) (ev_callT0 (T := "tuple") (av_cons0 ((ev_lcP (own := [("_law_k", 11)]) (k := Is (.lst ((lplus (hget b.n h2 p) give).map .int)) _) 11
        (iv_range B.range (ev_var 5 rfl) (by omega) (by omega)) (by simp; omega) (fun _ _ => true) (fun i _ => .int (at0 (hget b.n h2 p) i + at0 give i)) (fun _ _ => trivial)
        (fun i d μ' s H C cl fp hd _ => ts_nil ⟨rfl, rfl⟩) (fun i d μ' s H C cl fp hd _ _ => ?_) (.inl ⟨?_, rfl⟩) sc_done).is (av_nil0 (cd_tuple (.inr .l) ((ev_var 2 rfl).is ⟨rfl, (ev_var 8 rfl).is ⟨rfl, hh2, by rw [heldK_len]; omega, ?_⟩⟩))))) B.tuple bt_tuple))
      · obtain ⟨hi, rfl⟩ := rg_lt hd
        have hi : i < b.n := by omega
        exact ev_bin (ev_ix (ev_var 10 rfl) (ev_var 11 rfl) (rd_ixT rfl (it_at (by rw [vl]; exact hi)) ⟨rfl, rfl⟩)) (ev_ix (ev_var 9 rfl) (ev_var 11 rfl) (rd_ixT rfl (it_at (by rw [gl]; exact hi)) ⟨rfl, rfl⟩)) (rd_add ⟨rfl, rfl⟩)
      · rw [kept_rg, Int.toNat_natCast]
        unfold lplus
        rw [vl, List.map_map]
        rfl
      · have e1 : carry s.held ⟨taker, take, some p, give⟩ = aput h2 p (lplus (hget b.n h2 p) give) := by
          show aput (takeOut s.held _) p (lplus (hget give.length (takeOut s.held _) p) give) = _
          rw [e0, gl]
        have z := last (some (itup (hget b.n h2 p)))
        rw [e1] at z
        show SV _ _ _ ((μ.put hd (.dT (heldK h2))).put hd (.dT (putD (heldK h2) (plK p) (itup (lplus (hget b.n h2 p) give))))) _
        rw [put_held, Mem.put_put]
        exact z
  have so1 := takeOut_sok so R pos
  cases taker with
  | none =>
    refine sv_cons (s1_ifB (c1 := false) (tv_notN (ev_var 6 rfl) ⟨rfl, rfl⟩) (fun h => by cases h) fun _ => sv_nil ?_)
    have z := second s.held none so rfl
    rw [h0] at z
    exact z
  | some p =>
    obtain ⟨tpl, tok⟩ := R.tp p rfl
    have tl : take.length = b.n := R.tl
    have vl : (hget b.n s.held p).length = b.n := (hget_ok so p).len
    refine sv_cons (s1_ifB (c1 := true) (tv_notN (ev_var 6 rfl) ⟨rfl, rfl⟩) (fun _ => ?_) fun h => by cases h)
    refine sv_cons (s1_set 10 nd ((ev_getT (p := hd) (kvs := heldK s.held) (y := plK p) (dx := itup (zero b.n)) (k := Is (itup (hget b.n s.held p)) _) (u1 hr) (ev_var 2 rfl) (ev_var 6 rfl)
      (ev_bin (ev_tup (av_cons ev_int av_nil) (by simp) ⟨rfl, rfl⟩) (ev_var 5 rfl) (rd_repT rfl (by simp) (by simp) (by omega) (by omega) ⟨ez, rfl⟩)) hh hh ⟨held_getD b.n s.held p, rfl⟩ ⟨rfl, rfl, rfl, rfl⟩).is ?_))
    refine sv_cons (s1_ifB (c1 := ((List.range b.n).map fun i => decide (at0 (hget b.n s.held p) i < at0 take i)).any id) (tv_val (ev_callB0 (id := "any") (av_cons0 ((ev_lcP (own := [("_law_k", 11)]) (k := Is (.lst (((List.range b.n).map fun i => decide (at0 (hget b.n s.held p) i < at0 take i)).map .bl)) _) 11
      (iv_range B.range (ev_var 5 rfl) (by omega) (by omega)) (by simp; omega) (fun _ _ => true) (fun i _ => .bl (decide (at0 (hget b.n s.held p) i < at0 take i))) (fun _ _ => trivial)
      (fun i d μ' s H C cl fp hd _ => ts_nil ⟨rfl, rfl⟩) (fun i d μ' s H C cl fp hd hsub _ => ?_) (.inl ⟨?_, rfl⟩) sc_done).is (av_nil0 (cd_any (bs := (List.range b.n).map fun i => decide (at0 (hget b.n s.held p) i < at0 take i)) rfl .l ⟨rfl, rfl⟩)))) B.any (by decide +kernel))) (fun hc => ?_) (fun _ => sv_nil ?_))
    · obtain ⟨hi, rfl⟩ := rg_lt hd
      have hi : i < b.n := by omega
      exact ev_cmp (ev_ix (ev_var 10 rfl) (ev_var 11 rfl) (rd_ixT rfl (it_at (by rw [vl]; exact hi)) ⟨rfl, rfl⟩)) (ev_ix (ev_var 7 rfl) (ev_var 11 rfl) (rd_ixT rfl (it_at (by rw [tl]; exact hi)) ⟨rfl, rfl⟩)) (rd_lt ⟨rfl, rfl⟩)
    · rw [kept_rg, Int.toNat_natCast, List.map_map]
      rfl
    · exfalso
      have pos : lcov (hget take.length s.held p) take = true := pos
      rw [tl] at pos
      rw [List.any_eq_true] at hc
      obtain ⟨c, hc, hc2⟩ := hc
      obtain ⟨i, hi, rfl⟩ := List.mem_map.mp hc
      have := lcov_iff.mp pos i (by rw [vl]; exact List.mem_range.mp hi)
      have hlt : at0 (hget b.n s.held p) i < at0 take i := of_decide_eq_true hc2
      omega
    · refine sv_one (s1_dputT (p := hd) (kvs := heldK s.held) (y := plK p) (u1 hr) (ev_callT0 (T := "tuple") (av_cons0 ((ev_lcP (own := [("_law_k", 11)]) (k := Is (.lst ((lless (hget b.n s.held p) take).map .int)) _) 11
        (iv_range B.range (ev_var 5 rfl) (by omega) (by omega)) (by simp; omega) (fun _ _ => true) (fun i _ => .int (at0 (hget b.n s.held p) i - at0 take i)) (fun _ _ => trivial)
        (fun i d μ' s H C cl fp hd _ => ts_nil ⟨rfl, rfl⟩) (fun i d μ' s H C cl fp hd _ _ => ?_) (.inl ⟨?_, rfl⟩) sc_done).is (av_nil0 (cd_tuple (.inr .l) ((ev_var 2 rfl).is ⟨rfl, (ev_var 6 rfl).is ⟨rfl, hh, by rw [heldK_len]; omega, ?_⟩⟩))))) B.tuple bt_tuple))
      · obtain ⟨hi, rfl⟩ := rg_lt hd
        have hi : i < b.n := by omega
        exact ev_bin (ev_ix (ev_var 10 rfl) (ev_var 11 rfl) (rd_ixT rfl (it_at (by rw [vl]; exact hi)) ⟨rfl, rfl⟩)) (ev_ix (ev_var 7 rfl) (ev_var 11 rfl) (rd_ixT rfl (it_at (by rw [tl]; exact hi)) ⟨rfl, rfl⟩)) (rd_sub ⟨rfl, rfl⟩)
      · rw [kept_rg, Int.toNat_natCast]
        unfold lless
        rw [vl, List.map_map]
        rfl
      · have e0 : takeOut s.held ⟨some p, take, getter, give⟩ = aput s.held p (lless (hget b.n s.held p) take) := by
          show aput s.held p (lless (hget take.length s.held p) take) = _
          rw [tl]
        have z := second _ (some (itup (hget b.n s.held p))) so1 rfl
        rw [e0] at z
        show SV _ _ _ (μ.put hd (.dT (putD (heldK s.held) (plK p) (itup (lless (hget b.n s.held p) take))))) _
        rw [put_held]
        exact z
end
end Mw
set_option Elab.async false
set_option linter.all false
set_option maxRecDepth 100000
set_option maxHeartbeats 4000000
namespace Mw
open PySem PySem.Spec PyProof.Rows L2 DL Mh
abbrev nHist : List Str := ["_law_draws_here", "_law_book_here", "_law_count", "_law_held", "_law_way_here", "_law_used", "_law_history_here", "_law_k", "_law_event_here"]
abbrev sHist : Stmt := top 48
theorem sc_hist : FnScope nHist ["_law_draws_here", "_law_book_here", "_law_count"] (defScope sHist) := ⟨rfl, rfl, rfl, by decide +kernel, rfl, by decide +kernel, by decide +kernel⟩
def pdHist : PD := fun ds μ k => ∃ (q : Addr) (xs : IL) (a : Int) (b : Bk) (n : Nat), ds = [.ref q, bkD b, .int n] ∧ μ q = some (drw xs a) ∧ DrOk xs ∧ BOk b ∧ n ≤ 40 ∧
  ∀ hs s a' hd wd, Good b hs s → hs.length ≤ n → k (.tup [hsD hs, .ref hd, .ref wd]) (μ.put q (drw xs a'))
/-- the memory of the loop -/
structure HM (μ : Mem) (q hd wd ud yd : Addr) (xs : IL) (a : Int) (s : HS) (us : List Int) (hs : List Ev) (μ' : Mem) : Prop where
  qd : μ' q = some (drw xs a)
  hd : μ' hd = some (.dT (heldK s.held))
  wd : μ' wd = some (.dK (wayK s.way))
  ud : μ' ud = some (.lst (us.map .int))
  yd : μ' yd = some (.lst (hs.map evD))
  sub : Sub (μ.put q (drw xs a)) μ'
theorem sub_putq {μ μ' : Mem} {q : Addr} {o o' : MO} (h : Sub (μ.put q o) μ') : Sub (μ.put q o') (μ'.put q o') := fun c u e => by
  by_cases hc : c = q
  · subst hc; rw [Mem.put_same] at e ⊢; exact e
  · rw [Mem.put_ne hc] at e ⊢
    exact h c u (by rw [Mem.put_ne hc]; exact e)
theorem sub_putp {μ μ' : Mem} {p : Addr} {o : MO} (h : Sub μ μ') (n : μ p = none) : Sub μ (μ'.put p o) := fun c u e => by
  have hc : c ≠ p := fun z => by subst z; rw [n] at e; cases e
  rw [Mem.put_ne hc]
  exact h c u e
/-- what is drawn fits -/
theorem Drawn.fits {b : Bk} {hs : List Ev} {s : HS} {us us' : List Int} {e : Ev} (g : Good b hs s) (ht : ∀ t ∈ tickets hs, t ∈ us) (D : Drawn b s.held s.way us e us') : Fits b (hs ++ [e]) s e ∧ (∀ p t x, e = .send p t x → t ∉ tickets hs) ∧ (∀ t ∈ tickets (hs ++ [e]), t ∈ us') ∧ us'.length ≤ us.length + 1 := by
  have new : ∀ p t x, e = .send p t x → t ∉ tickets hs := fun p t x e' z => (D.send p t x e').1 (ht t z)
  have et : tickets (hs ++ [e]) = tickets hs ++ tkOf e := by
    unfold tickets
    rw [List.filterMap_append]
    congr 1
    cases e <;> rfl
  refine ⟨⟨D.ok, D.pos _, fun p t x e' => ?_, fun p t e' => ?_⟩, new, fun t h => ?_, ?_⟩
  · have z := sentOf_new (new p t x e')
    cases q : aget s.way t with
    | none => rfl
    | some y => rw [Good.way g t y q] at z; cases z
  · obtain ⟨x, hx⟩ := D.land p t e'
    exact ⟨x, hx, sentOf_app (Good.way g t x hx)⟩
  · rw [et] at h
    cases e with
    | send p u x =>
      rw [(D.send p u x rfl).2]
      rcases List.mem_append.mp h with h | h
      · exact List.mem_append_left _ (ht t h)
      · exact List.mem_append_right _ h
    | land p u => rw [D.other nofun]; exact ht t (by simpa [tkOf] using h)
    | make p m g => rw [D.other nofun]; exact ht t (by simpa [tkOf] using h)
    | hand p m g => rw [D.other nofun]; exact ht t (by simpa [tkOf] using h)
    | forge p g => rw [D.other nofun]; exact ht t (by simpa [tkOf] using h)
  · cases e with
    | send p u x => rw [(D.send p u x rfl).2, List.length_append]; exact Nat.le_refl _
    | land p u => rw [D.other nofun]; omega
    | make p m g => rw [D.other nofun]; omega
    | hand p m g => rw [D.other nofun]; omega
    | forge p g => rw [D.other nofun]; omega
section
variable {P : Program} {w : World} {K : PySem.W.Frag} {mg : Str → Option Value} {base : Heap} {f : Addr} {fd : FuncData}
theorem ok_hist (F : FunD K "_law_history" "_law_history" (defArgs sHist) (defBody sHist) (defScope sHist) [] [] f fd) (B : Bt mg) (cE : Cal P w K mg base "_law_event" 3 pdEvent) (cD : Cal P w K mg base "_law_done" 2 pdDone) : FnOk P w K mg base CX0 4 f fd ["_law_draws_here", "_law_book_here", "_law_count"] (dsp K pdHist) := by
  refine fn_dl F sc_hist (fun ds μ k h => by obtain ⟨q, xs, a, b, n, rfl, _⟩ := h; rfl) fun cdv A outer sh H E hr ds μ k h => ?_
  obtain ⟨q, xs, a, b, n, rfl, hq, dr, BO, hn, hk⟩ := h
  have nd := sc_hist.nd
  refine sv_cons (s1_set 3 nd (ev_dnewT fun hd nhd => ?_))
  refine sv_cons (s1_set 4 nd (ev_dnewK fun wd nwd => ?_))
  refine sv_cons (s1_set 5 nd (ev_lst av_nil (by simp) (.inr fun ud nud => ?_)))
  refine sv_cons (s1_set 6 nd (ev_lst av_nil (by simp) (.inr fun yd nyd => ?_)))
  obtain ⟨h1, h1'⟩ := ne_new nyd
  obtain ⟨h2, h2'⟩ := ne_new h1'
  obtain ⟨h3, h3'⟩ := ne_new h2'
  obtain ⟨h4, h4'⟩ := ne_new nud
  obtain ⟨h5, h5'⟩ := ne_new h4'
  obtain ⟨h6, h6'⟩ := ne_new nwd
  have qh : q ≠ hd := fun e => by subst e; rw [hq] at nhd; cases nhd
  have qw : q ≠ wd := fun e => by subst e; rw [hq] at h6'; cases h6'
  have qu : q ≠ ud := fun e => by subst e; rw [hq] at h5'; cases h5'
  have qy : q ≠ yd := fun e => by subst e; rw [hq] at h3'; cases h3'
  have nq : ∀ {p : Addr} {o : MO}, q ≠ p → μ p = none → (μ.put q o) p = none := fun e z => by rw [Mem.put_ne (Ne.symm e)]; exact z
  have hm0 : HM μ q hd wd ud yd xs a ⟨[], []⟩ [] [] ((((μ.put hd (.dT [])).put wd (.dK [])).put ud (.lst [])).put yd (.lst [])) := by
    refine ⟨?_, ?_, ?_, ?_, Mem.put_same, ?_⟩
    · rw [Mem.put_ne qy, Mem.put_ne qu, Mem.put_ne qw, Mem.put_ne qh]; exact hq
    · rw [Mem.put_ne h3, Mem.put_ne h5, Mem.put_ne h6, Mem.put_same]; rfl
    · rw [Mem.put_ne h2, Mem.put_ne h4, Mem.put_same]; rfl
    · rw [Mem.put_ne h1, Mem.put_same]; rfl
    · rw [put_id hq]
      exact sub_putp (sub_putp (sub_putp (sub_put nhd) h6') h5') h3'
  refine sv_cons (s1_forR (n := n) 7 PassesOwn.never rfl nd (iv_range B.range (ev_var 2 rfl) (by omega) (by omega)) (fun i δ' μ' => ∃ (a' : Int) (hs : List Ev) (s : HS) (us : List Int) (z7 z8 : Option D), δ' = [some (.ref q), some (bkD b), some (.int n), some (.ref hd), some (.ref wd), some (.ref ud), some (.ref yd), z7, z8] ∧
      HM μ q hd wd ud yd xs a' s us hs μ' ∧ Good b hs s ∧ hs.length ≤ i ∧ us.length ≤ i ∧ ∀ t ∈ tickets hs, t ∈ us)
    ⟨a, [], ⟨[], []⟩, [], none, none, rfl, hm0, Good.nil, Nat.le_refl _, Nat.le_refl _, fun t ht => by cases ht⟩ (fun i δ' μ' hi hI => ?_) (fun δ' μ' hI => ?_))
  · obtain ⟨a1, hs, s, us, z7, z8, rfl, hm, gd, hl, ul, ht⟩ := hI
    have hi : i < n := by omega
    have so := gd.sok BO
    have wl := Mw.Good.way_len gd
    refine sv_cons (s1_set 8 nd (ev_callC cE (hr.mono (by omega)) ((av_cons (ev_var 0 rfl) (av_cons (ev_var 1 rfl) (av_cons (ev_var 3 rfl) (av_cons (ev_var 4 rfl) (av_cons (ev_var 5 rfl) (av_cons ev_bl av_nil)))))).is ⟨q, xs, a1, b, hd, wd, ud, s.held, s.way, us, rfl, hm.qd, dr, qw, hm.hd, hm.wd, hm.ud, BO, so, by omega, by omega, fun e a2 us' dn => ?_⟩)))
    obtain ⟨Fi, new, ht', ul'⟩ := dn.fits gd ht
    -- the memory behind the draw
    have hm2 : HM μ q hd wd ud yd xs a2 s us' hs ((μ'.put q (drw xs a2)).put ud (.lst (us'.map .int))) := by
      refine ⟨?_, ?_, ?_, Mem.put_same, ?_, ?_⟩
      · rw [Mem.put_ne qu, Mem.put_same]
      · rw [Mem.put_ne h5, Mem.put_ne (Ne.symm qh)]; exact hm.hd
      · rw [Mem.put_ne h4, Mem.put_ne (Ne.symm qw)]; exact hm.wd
      · rw [Mem.put_ne (Ne.symm h1), Mem.put_ne (Ne.symm qy)]; exact hm.yd
      · exact sub_putp (sub_putq hm.sub) (nq qu h5')
    generalize (μ'.put q (drw xs a2)).put ud (.lst (us'.map .int)) = μ2 at hm2
    show SV _ _ [some (.ref q), some (bkD b), some (.int n), some (.ref hd), some (.ref wd), some (.ref ud), some (.ref yd), some (.int (i : Nat)), some (evD e)] _ _
    refine sv_one (s1_if (tv_val0 (ev_callC cD (hr.mono (by omega)) (av_cons0 ((ev_var 1 rfl).is (av_cons0 ((ev_bin (k := Is (.lst ((hs ++ [e]).map evD)) μ2) (ev_var 6 rfl) (ev_lst (k := Is (.lst [evD e]) μ2) (av_cons (ev_var 8 rfl) av_nil) (by simp) (.inl ⟨rfl, rfl⟩)) (rd_cat (.inr ⟨yd, rfl, hm2.yd⟩) (.inl rfl) (by rw [List.length_map]; simp; omega) (.inl ⟨by rw [List.map_append]; rfl, rfl⟩))).is
      ((av_cons (ev_var 3 rfl) (av_cons (ev_var 4 rfl) (av_cons (ev_var 8 rfl) av_nil))).is ⟨b, hs ++ [e], s, e, hd, wd, rfl, hm2.hd, hm2.wd, BO, so, Fi, by omega, by rw [List.length_append, List.length_singleton]; omega, ⟨true, rfl, fun _ => ?_, nofun⟩⟩))))))))
    have hm3 : HM μ q hd wd ud yd xs a2 (step b (hs ++ [e]) s e) us' hs ((μ2.put hd (.dT (heldK (carry s.held (flow b (hs ++ [e]) e))))).put wd (.dK (wayK (wayStep s.way e)))) := by
      refine ⟨?_, ?_, Mem.put_same, ?_, ?_, ?_⟩
      · rw [Mem.put_ne qw, Mem.put_ne qh]; exact hm2.qd
      · rw [Mem.put_ne h6, Mem.put_same]; rfl
      · rw [Mem.put_ne (Ne.symm h4), Mem.put_ne (Ne.symm h5)]; exact hm2.ud
      · rw [Mem.put_ne (Ne.symm h2), Mem.put_ne (Ne.symm h3)]; exact hm2.yd
      · exact sub_putp (sub_putp hm2.sub (nq qh nhd)) (nq qw h6')
    generalize (μ2.put hd (.dT (heldK (carry s.held (flow b (hs ++ [e]) e))))).put wd (.dK (wayK (wayStep s.way e))) = μ3 at hm3
    refine sv_one (s1_expr (ev_app (p := yd) (ds := hs.map evD) (ev_var 6 rfl) (ev_var 8 rfl) hm3.yd hm3.yd (by rw [List.length_map]; omega) ?_))
    refine ⟨a2, hs ++ [e], step b (hs ++ [e]) s e, us', _, _, rfl, ⟨?_, ?_, ?_, ?_, ?_, ?_⟩, Good.snoc gd Fi new, by rw [List.length_append, List.length_singleton]; omega, by omega, ht'⟩
    · rw [Mem.put_ne qy]; exact hm3.qd
    · rw [Mem.put_ne h3]; exact hm3.hd
    · rw [Mem.put_ne h2]; exact hm3.wd
    · rw [Mem.put_ne h1]; exact hm3.ud
    · rw [Mem.put_same, List.map_append]; rfl
    · exact sub_putp hm3.sub (nq qy h3')
  · obtain ⟨a1, hs, s, us, z7, z8, rfl, hm, gd, hl, ul, ht⟩ := hI
    rw [Int.toNat_natCast] at hl
    exact sv_one (s1_ret (ev_drop (ev_tup (ds := [hsD hs, .ref hd, .ref wd]) (av_cons (ev_callT (T := "tuple") (k := Is (hsD hs) μ') (av_cons (ev_var 6 rfl) av_nil) (cd_tuple (.inr (.m hm.yd)) ⟨rfl, rfl⟩) B.tuple bt_tuple) (av_cons (ev_var 3 rfl) (av_cons (ev_var 4 rfl) av_nil))) (by simp) ⟨μ.put q (drw xs a1), hm.sub, hk hs s a1 hd wd gd hl⟩)))
end
end Mw
set_option Elab.async false
set_option linter.all false
set_option maxRecDepth 100000
set_option maxHeartbeats 4000000
namespace Mw
open PySem PySem.Spec PyProof.Rows L2 DL Mh
abbrev sLVal : Stmt := top 51
theorem sc_lval : FnScope ["_law_stock_here", "_law_prices", "_law_k"] ["_law_stock_here", "_law_prices"] (defScope sLVal) := ⟨rfl, rfl, rfl, by decide +kernel, rfl, by decide +kernel, by decide +kernel⟩
abbrev nBnd : List Str := ["_law_book_here", "_law_prices", "_law_holdings", "_law_under_way", "_law_worth", "_law_stocks", "_law_k", "_law_row", "_law_stock_here"]
abbrev sBnd : Stmt := top 52
theorem sc_bnd : FnScope nBnd ["_law_book_here", "_law_prices", "_law_holdings", "_law_under_way", "_law_worth"] (defScope sBnd) := ⟨rfl, rfl, rfl, by decide +kernel, rfl, by decide +kernel, by decide +kernel⟩
def pdBnd : PD := fun ds μ k => ∃ (bd : D) (ps : IL) (rows : List (Pl × IL)) (ways : List (Int × IL)) (worth : Int), ds = [bd, itup ps, showD rows, waysD ways, .int worth] ∧ Bnd ps (rows.map (·.2) ++ ways.map (·.2)) worth ∧ Small ps ∧ ps.length ≤ 100 ∧
  (∀ g ∈ rows.map (·.2) ++ ways.map (·.2), g.length = ps.length) ∧ rows.length ≤ 1000 ∧ ways.length ≤ 1000 ∧ k (.bl true) μ
theorem map_get {α : Type} {xs : List α} {g : α → D} {i : Nat} {d : D} (h : (xs.map g)[i]? = some d) : ∃ x, xs[i]? = some x ∧ d = g x := by
  rw [List.getElem?_map] at h
  cases q : xs[i]? with
  | none => rw [q] at h; cases h
  | some e => rw [q] at h; exact ⟨e, rfl, (Option.some.inj h).symm⟩
def third : D → D
  | .tup [_, _, x] => x
  | _ => .non
def snd_ : D → D
  | .tup [_, x] => x
  | _ => .non
section
variable {P : Program} {w : World} {K : PySem.W.Frag} {mg : Str → Option Value} {base : Heap} {f : Addr} {fd : FuncData}
theorem ok_lval (F : FunD K "_law_value" "_law_value" (defArgs sLVal) (defBody sLVal) (defScope sLVal) [] [] f fd) (B : Bt mg) : FnOk P w K mg base CX0 1 f fd ["_law_stock_here", "_law_prices"] (dsp K pdValue) := by
  refine fn_dl F sc_lval (fun ds μ k h => by obtain ⟨xs, ys, rfl, _⟩ := h; rfl) fun cdv A outer s H E hr ds μ k h => ?_
  obtain ⟨xs, ps, rfl, h1, h2, hs, hk⟩ := h
  have nd := sc_lval.nd
  refine sv_one (s1_ret (ev_callB0 (id := "sum") (av_cons0 ((ev_lcP (own := [("_law_k", 2)]) (k := Is (.lst (((List.range ps.length).map fun k => at0 xs k * at0 ps k).map .int)) μ) 2
    (iv_range B.range (ev_callB (av_cons (ev_var 1 rfl) av_nil) (cd_len (.inl rfl) ⟨rfl, rfl⟩) B.len PySem.boot_len) (by simp; omega) (by omega)) (by simp; omega) (fun _ _ => true) (fun i _ => .int (at0 xs i * at0 ps i)) (fun _ _ => trivial)
    (fun i d μ' s H C cl fp hd _ => ts_nil ⟨rfl, rfl⟩) (fun i d μ' s H C cl fp hd _ _ => ?_) (.inl ⟨?_, rfl⟩) sc_lval).is (av_nil0 (cd_sum rfl .l hk)))) B.sum (by decide +kernel)))
  · obtain ⟨hi, rfl⟩ := rg_lt hd
    simp at hi
    exact ev_bin (ev_ix (ev_var 0 rfl) (ev_var 2 rfl) (rd_ixT rfl (it_at (by omega)) ⟨rfl, rfl⟩)) (ev_ix (ev_var 1 rfl) (ev_var 2 rfl) (rd_ixT rfl (it_at hi) ⟨rfl, rfl⟩)) (rd_mul (.inr (hs i hi)) ⟨rfl, rfl⟩)
  · simp [kept_rg]
theorem ok_bnd (F : FunD K "_law_bounded" "_law_bounded" (defArgs sBnd) (defBody sBnd) (defScope sBnd) [] [] f fd) (B : Bt mg) (cV : Cal P w K mg base "_law_value" 1 pdValue) : FnOk P w K mg base CX0 2 f fd ["_law_book_here", "_law_prices", "_law_holdings", "_law_under_way", "_law_worth"] (dsp K pdBnd) := by
  refine fn_dl F sc_bnd (fun ds μ k h => by obtain ⟨xs, ys, r, y, z, rfl, _⟩ := h; rfl) fun cdv A outer s H E hr ds μ k h => ?_
  obtain ⟨bd, ps, rows, ways, worth, rfl, hb, hs, hp, hg, hrl, hwl, hk⟩ := h
  have nd := sc_bnd.nd
  generalize hst : rows.map (·.2) ++ ways.map (·.2) = st at hb hg
  have stl : st.length ≤ 2000 := by rw [← hst, List.length_append, List.length_map, List.length_map]; omega
  have gst : ∀ {i : Nat} {d : D}, (st.map itup)[i]? = some d → ∃ g, st[i]? = some g ∧ d = itup g ∧ g.length = ps.length := fun h => by
    obtain ⟨g, h1, h2⟩ := map_get h
    exact ⟨g, h1, h2, hg g (List.mem_of_getElem? h1)⟩
  refine sv_cons (s1_set 5 nd ((ev_bin (k := Is (.lst (st.map itup)) μ)
    (ev_lcP (own := [("_law_row", 7)]) (k := Is (.lst (rows.map fun e => itup e.2)) μ) 7 (iv_tup (ev_var 2 rfl)) (by rw [List.length_map]; omega) (fun _ _ => true) (fun _ d => third d) (fun _ _ => trivial)
      (fun i d μ' s H C cl fp hd _ => ts_nil ⟨rfl, rfl⟩) (fun i d μ' s H C cl fp hd _ _ => ?_) (.inl ⟨?_, rfl⟩) sc_bnd)
    (ev_lcP (own := [("_law_row", 7)]) (k := Is (.lst (ways.map fun e => itup e.2)) μ) 7 (iv_tup (ev_var 3 rfl)) (by rw [List.length_map]; omega) (fun _ _ => true) (fun _ d => snd_ d) (fun _ _ => trivial)
      (fun i d μ' s H C cl fp hd _ => ts_nil ⟨rfl, rfl⟩) (fun i d μ' s H C cl fp hd _ _ => ?_) (.inl ⟨?_, rfl⟩) sc_bnd)
    (rd_cat (.inl rfl) (.inl rfl) (by rw [List.length_map, List.length_map]; omega) (.inl ⟨by rw [← hst, List.map_append, List.map_map, List.map_map]; rfl, rfl⟩))).is ?_))
  · obtain ⟨e, _, rfl⟩ := map_get hd
    show EV _ _ _ μ' (Is (itup e.2) μ')
    exact ev_ix (ev_var 7 rfl) ev_int (rd_ixT rfl rfl ⟨rfl, rfl⟩)
  · rw [kept_map _ _ rows (fun e => itup e.2) (by simp)]
    intro i d x hd hx
    obtain ⟨e, he, rfl⟩ := map_get hd
    rw [hx] at he
    cases he
    rfl
  · obtain ⟨e, _, rfl⟩ := map_get hd
    show EV _ _ _ μ' (Is (itup e.2) μ')
    exact ev_ix (ev_var 7 rfl) ev_int (rd_ixT rfl rfl ⟨rfl, rfl⟩)
  · rw [kept_map _ _ ways (fun e => itup e.2) (by simp)]
    intro i d x hd hx
    obtain ⟨e, he, rfl⟩ := map_get hd
    rw [hx] at he
    cases he
    rfl
  show SV _ _ [some bd, some (itup ps), some (showD rows), some (waysD ways), some (.int worth), some (.lst (st.map itup)), none, none, none] _ _
  refine sv_cons (s1_ifB (c1 := decide (worth < (st.map fun g => val g ps).sum)) (tv_cmp (ev_callB0 (id := "sum") (k := Is (.int (st.map fun g => val g ps).sum) μ) (av_cons0 ((ev_lcP (own := [("_law_stock_here", 8)]) (k := Is (.lst ((st.map fun g => val g ps).map .int)) μ) 8
    (iv_lst (ev_var 5 rfl)) (by rw [List.length_map]; omega) (fun _ _ => true) (fun i _ => .int (val (st.getD i []) ps)) (fun _ _ => trivial)
    (fun i d μ' s H C cl fp hd _ => ts_nil ⟨rfl, rfl⟩) (fun i d μ' s H C cl fp hd _ _ => ?_) (.inl ⟨?_, rfl⟩) sc_bnd).is (av_nil0 (cd_sum rfl .l ⟨rfl, rfl⟩)))) B.sum (by decide +kernel)) (ev_var 4 rfl) (rd_gt ⟨rfl, rfl⟩) ⟨rfl, rfl⟩) (fun hc => ?_) (fun _ => sv_nil ?_))
  · obtain ⟨g, h1, rfl, h2⟩ := gst hd
    have e : st.getD i [] = g := by rw [List.getD_eq_getElem?_getD, h1]; rfl
    show EV _ _ _ μ' (Is (.int (val (st.getD i []) ps)) μ')
    rw [e]
    exact ev_callC cV (hr.mono (by omega)) ((av_cons (ev_var 8 rfl) (av_cons (ev_var 1 rfl) av_nil)).is ⟨g, ps, rfl, by omega, hp, hs, ⟨rfl, rfl⟩⟩)
  · rw [kept_map _ _ st (fun g => .int (val g ps)) (by simp)]
    · rw [List.map_map]; rfl
    · intro i d x hd hx
      have e : st.getD i [] = x := by rw [List.getD_eq_getElem?_getD, hx]; rfl
      rw [e]
  · have := of_decide_eq_true hc
    have := hb.all
    omega
  · refine sv_cons (s1_forR (n := (ps.length : Nat)) 6 PassesOwn.never rfl nd (iv_range B.range (ev_callB (av_cons (ev_var 1 rfl) av_nil) (cd_len (.inl rfl) ⟨by simp, rfl⟩) B.len PySem.boot_len) (by omega) (by omega))
      (fun i δ' μ' => μ' = μ ∧ ∃ z6, δ' = [some bd, some (itup ps), some (showD rows), some (waysD ways), some (.int worth), some (.lst (st.map itup)), z6, none, none]) ⟨rfl, none, rfl⟩ (fun i δ' μ' hi hI => ?_) (fun δ' μ' hI => ?_))
    · obtain ⟨rfl, z6, rfl⟩ := hI
      have hi : i < ps.length := by omega
      show SV _ _ [some bd, some (itup ps), some (showD rows), some (waysD ways), some (.int worth), some (.lst (st.map itup)), some (.int (i : Nat)), none, none] _ _
      refine sv_one (s1_ifB (c1 := decide (0 < at0 ps i) && decide (worth < (st.map fun g => at0 g i).sum * at0 ps i)) (tv_and2 (c1 := decide (0 < at0 ps i)) (c2 := decide (worth < (st.map fun g => at0 g i).sum * at0 ps i)) (tv_cmp (ev_ix (ev_var 1 rfl) (ev_var 6 rfl) (rd_ixT rfl (it_at hi) ⟨rfl, rfl⟩)) ev_int (rd_gt ⟨rfl, rfl⟩) ⟨rfl, rfl⟩)
        fun _ => tv_cmp (ev_bin (ev_callB0 (id := "sum") (k := Is (.int (st.map fun g => at0 g i).sum) μ') (av_cons0 ((ev_lcP (own := [("_law_stock_here", 8)]) (k := Is (.lst ((st.map fun g => at0 g i).map .int)) μ') 8
        (iv_lst (ev_var 5 rfl)) (by rw [List.length_map]; omega) (fun _ _ => true) (fun j _ => .int (at0 (st.getD j []) i)) (fun _ _ => trivial)
        (fun i d μ' s H C cl fp hd _ => ts_nil ⟨rfl, rfl⟩) (fun j d μ' s H C cl fp hd _ _ => ?_) (.inl ⟨?_, rfl⟩) sc_bnd).is (av_nil0 (cd_sum rfl .l ⟨rfl, rfl⟩)))) B.sum (by decide +kernel)) (ev_ix (ev_var 1 rfl) (ev_var 6 rfl) (rd_ixT rfl (it_at hi) ⟨rfl, rfl⟩)) (rd_mul (.inr (hs i hi)) ⟨rfl, rfl⟩)) (ev_var 4 rfl) (rd_gt ⟨rfl, rfl⟩) ⟨rfl, rfl⟩) (fun hc => ?_) (fun _ => sv_nil ⟨rfl, _, rfl⟩))
      · obtain ⟨g, h1, rfl, h2⟩ := gst hd
        have e : st.getD j [] = g := by rw [List.getD_eq_getElem?_getD, h1]; rfl
        show EV _ _ _ _ (Is (.int (at0 (st.getD j []) i)) _)
        rw [e]
        exact ev_ix (ev_var 8 rfl) (ev_var 6 rfl) (rd_ixT rfl (it_at (by omega)) ⟨rfl, rfl⟩)
      · rw [kept_map _ _ st (fun g => .int (at0 g i)) (by simp)]
        · rw [List.map_map]; rfl
        · intro j d x hd hx
          have e : st.getD j [] = x := by rw [List.getD_eq_getElem?_getD, hx]; rfl
          rw [e]
      · exfalso
        rw [Bool.and_eq_true] at hc
        have h1 := of_decide_eq_true hc.1
        have h2 := of_decide_eq_true hc.2
        have := hb.each i hi h1
        omega
    · obtain ⟨rfl, z6, rfl⟩ := hI
      exact sv_one (s1_ret (ev_bl.is hk))
end
end Mw
set_option Elab.async false
set_option linter.all false
set_option maxRecDepth 100000
set_option maxHeartbeats 4000000
namespace Mw
open PySem PySem.Spec PyProof.Rows L2 DL Mh
abbrev nLaw : List Str := ["_law_script", "_law_draws_here", "_law_book_here", "_law_history_here", "_law_held", "_law_way_here", "_law_prices", "_law_gains", "_law_worth", "_law_k", "_law_holdings", "_law_under_way", "_law_recall", "_law_struck", "_law_left"]
abbrev sLaw : Stmt := top 53
theorem sc_law : FnScope nLaw ["_law_script"] (defScope sLaw) := ⟨rfl, rfl, rfl, by decide +kernel, rfl, by decide +kernel, by decide +kernel⟩
def pdLaw (P1 P2 : Addr) : PD := fun ds μ k => ∃ ns : List Int, ds = [.scr ns] ∧ ns.length ≤ 63 ∧ μ P1 = some .tab ∧ μ P2 = some .tab ∧ ∀ μ', k (.bl true) μ'
theorem good_rows {b : Bk} {hs : List Ev} {s : HS} (BO : BOk b) (gd : Good b hs s) {i : Nat} {e : Ev} (he : hs[i]? = some e) : FlowOk b hs e ∧ RowOk b.n (flow b hs e) ∧ EOk b e := by
  have hi : i < hs.length := (List.getElem?_eq_some_iff.mp he).1
  obtain ⟨s', g', _, q⟩ := gd.at i (by omega)
  obtain ⟨Fi, _, _⟩ := q e he
  have R := Fi.row BO (g'.sok BO)
  refine ⟨Mw.Fits.flowOk Fi, ⟨R.tl, ?_⟩, Fi.ok⟩
  cases e with
  | send p t g => exact zero_len
  | land p t => exact (R.gv p rfl).1.len
  | make p m g => exact (R.gv p rfl).1.len
  | hand p o g => exact (R.gv _ rfl).1.len
  | forge p g => exact (R.gv p rfl).1.len
theorem gain_forge {b : Bk} {hs : List Ev} {ps : IL} {p : Pl} {g : IL} : gainOf b hs ps (.forge p g) = val g ps := by
  show val g ps - val (zero b.n) ps = val g ps
  rw [val_zero]
  omega
theorem gain_other {b : Bk} {hs : List Ev} {ps : IL} {e : Ev} (PO : POk b ps) (ok : EOk b e) (h : ∀ p g, e ≠ .forge p g) : gainOf b hs ps e ≤ 0 := by
  cases e with
  | send p t g => exact Int.le_refl _
  | land p t => exact Int.le_refl _
  | make p m g =>
    obtain ⟨h1, h2, h3, h4⟩ := ok
    have q1 : val g ps ≤ val (b.mvs.getD m default).high ps := val_le PO.ok h4
    have q2 := PO.mv _ (mv_mem h2)
    show val g ps - val (b.mvs.getD m default).take ps ≤ 0
    omega
  | hand p o g =>
    show val g ps - val g ps ≤ 0
    omega
  | forge p g => exact absurd rfl (h p g)
theorem worth_other {ps : IL} {e : Ev} (h : ∀ p g, e ≠ .forge p g) : worthOf ps e = 0 := by
  cases e with
  | forge p g => exact absurd rfl (h p g)
  | send p t g => rfl
  | land p t => rfl
  | make p m g => rfl
  | hand p o g => rfl
theorem worths_take {ps : IL} {hs : List Ev} {i : Nat} {e : Ev} (he : hs[i]? = some e) : worths ps (hs.take (i + 1)) = worths ps (hs.take i) + worthOf ps e := by
  rw [List.take_add_one, he]
  exact worths_snoc
theorem shows_len {s : HS} {n : Nat} {rows : List (Pl × IL)} {ways : List (Int × IL)} (S : Shows s rows ways) (so : SOk n s) : (∀ g ∈ rows.map (·.2) ++ ways.map (·.2), g.length = n) ∧ rows.length ≤ 6 ∧ ways.length = s.way.length := by
  refine ⟨fun g hg => ?_, ?_, S.ways.length_eq⟩
  · rcases List.mem_append.mp hg with hg | hg
    · obtain ⟨e, he, rfl⟩ := List.mem_map.mp hg
      exact (so.hv e (List.mem_filter.mp (S.rows.mem_iff.mp he)).1).1.len
    · obtain ⟨e, he, rfl⟩ := List.mem_map.mp hg
      exact (so.wv e (S.ways.mem_iff.mp he)).len
  · have h1 := S.rows.length_eq
    have h2 := List.length_filter_le (fun e : Pl × IL => nz e.2) s.held
    have h3 := Mw.SOk.held_len so
    omega
theorem stands_len (b : Bk) (hs : List Ev) (rec : List Int) : ∀ i, (srun b hs rec i).stands.length ≤ i
  | 0 => Nat.le_refl _
  | i + 1 => by
    have ih := stands_len b hs rec i
    rw [srun_succ]
    unfold Mh.sstep
    split
    · omega
    · split
      · rw [List.length_append, List.length_singleton]; omega
      · show (srun b hs rec i).stands.length ≤ _; omega
/-- what is recalled: some of the forgeries, each once -/
structure RecOk (ps : IL) (hs : List Ev) (j : Nat) (rec : List Int) : Prop where
  lt : ∀ r ∈ rec, ∃ m : Nat, r = m ∧ m < j ∧ ∃ p x, evAt hs m = .forge p x
  sum : (rec.map fun r => worthOf ps (evAt hs r.toNat)).sum + leftOf ps rec hs j = worths ps (hs.take j)
  len : rec.length ≤ j
theorem RecOk.nil {ps : IL} {hs : List Ev} : RecOk ps hs 0 [] := ⟨fun r h => (by cases h), rfl, Nat.le_refl _⟩
theorem RecOk.not {ps : IL} {hs : List Ev} {j : Nat} {rec : List Int} (h : RecOk ps hs j rec) : rec.contains (j : Int) = false := by
  cases q : rec.contains (j : Int) with
  | false => rfl
  | true =>
    obtain ⟨m, h1, h2, _⟩ := h.lt (j : Int) (by simpa using q)
    omega
theorem RecOk.skip {ps : IL} {hs : List Ev} {j : Nat} {rec : List Int} {e : Ev} (h : RecOk ps hs j rec) (he : hs[j]? = some e) : RecOk ps hs (j + 1) rec := by
  refine ⟨fun r hr => ?_, ?_, by have := h.len; omega⟩
  · obtain ⟨m, h1, h2, h3⟩ := h.lt r hr
    exact ⟨m, h1, by omega, h3⟩
  · rw [leftOf_succ, if_neg (by rw [h.not]; exact Bool.false_ne_true), worths_take he, evAt_of he]
    have := h.sum
    omega
theorem RecOk.take {ps : IL} {hs : List Ev} {j : Nat} {rec : List Int} {p : Pl} {g : IL} (h : RecOk ps hs j rec) (he : hs[j]? = some (.forge p g)) : RecOk ps hs (j + 1) (rec ++ [(j : Int)]) := by
  refine ⟨fun r hr => ?_, ?_, by have := h.len; rw [List.length_append, List.length_singleton]; omega⟩
  · rcases List.mem_append.mp hr with hr | hr
    · obtain ⟨m, h1, h2, h3⟩ := h.lt r hr
      exact ⟨m, h1, by omega, h3⟩
    · exact ⟨j, by simpa using hr, by omega, p, g, evAt_of he⟩
  · have e1 : leftOf ps (rec ++ [(j : Int)]) hs j = leftOf ps rec hs j := by
      unfold leftOf
      congr 1
      refine List.map_congr_left fun x hx => ?_
      have hx := List.mem_range.mp hx
      have e2 : (rec ++ [(j : Int)]).contains (x : Int) = rec.contains (x : Int) := by
        rw [List.contains_eq_any_beq, List.contains_eq_any_beq, List.any_append]
        have : ((x : Int) == (j : Int)) = false := by
          rw [beq_eq_false_iff_ne]; omega
        simp [this]
      rw [e2]
    rw [leftOf_succ, if_pos (by simp), e1, worths_take he, List.map_append, List.sum_append]
    have h1 := h.sum
    show _ + ([worthOf ps (evAt hs ((j : Int)).toNat)]).sum + (leftOf ps rec hs j + 0) = _ + worthOf ps (.forge p g)
    rw [Int.toNat_natCast, evAt_of he]
    simp only [List.sum_cons, List.sum_nil]
    omega
theorem cut_ev (hs : List Ev) (m : Nat) : DL.cutD (hs.map evD) none (some (m : Nat)) = (hs.take m).map evD := by
  unfold DL.cutD
  have e : HT.sIx (hs.map evD).length 0 none = 0 := rfl
  rw [HT.sIx_nat, e, List.drop_zero, Nat.sub_zero, ← List.map_take, List.length_map]
  congr 1
  by_cases h : m ≤ hs.length
  · rw [Nat.min_eq_left h]
  · rw [Nat.min_eq_right (by omega), List.take_of_length_le (Nat.le_refl _), List.take_of_length_le (by omega)]
theorem s1_mid {X : Cx} {st : Stmt} {δ : DS} {μ : Mem} {k : DE} {J : DS → Mem → Prop} (h : S1 X st δ μ { k with nx := J }) (w : ∀ δ' μ', J δ' μ' → k.nx δ' μ') : S1 X st δ μ k := fun σ H E sr sa q =>
  h σ H E sr sa ⟨fun σ' δ' μ' H' j kp sa' sr' => q.nx σ' δ' μ' H' (w _ _ j) kp sa' sr', q.rt, q.bk, q.ct⟩
theorem at0_in {xs : IL} {i : Nat} (h : i < xs.length) : at0 xs i ∈ xs := by
  have e : at0 xs i = xs[i] := by unfold at0; rw [List.getD_eq_getElem?_getD, List.getElem?_eq_getElem h]; rfl
  rw [e]
  exact List.getElem_mem h
section
variable {P : Program} {w : World} {K : PySem.W.Frag} {mg : Str → Option Value} {base : Heap} {f : Addr} {fd : FuncData}
theorem ok_law {P1 P2 : Addr} (F : FunD K "law" "law" (defArgs sLaw) (defBody sLaw) (defScope sLaw) [] [] f fd) (B : Bt mg) (cDr : Cal P w K mg base "_law_draws" 3 pdDraws) (cT : Cal P w K mg base "_law_take" 1 pdTake) (cBk : Cal P w K mg base "_law_book" 3 pdBook) (cH : Cal P w K mg base "_law_history" 4 pdHist)
    (cP : Cal P w K mg base "parting" 8 (pdPart P1 P2)) (cA : Cal P w K mg base "audit" 4 pdAudit) (cV : Cal P w K mg base "_law_value" 1 pdValue) (cO : Cal P w K mg base "carry_out" 3 pdOut) (cB : Cal P w K mg base "_law_bounded" 2 pdBnd) (cS : Cal P w K mg base "strike" 3 pdStrike) :
    FnOk P w K mg base CX0 9 f fd ["_law_script"] (dsp K (pdLaw P1 P2)) := by
  refine fn_dl F sc_law (fun ds μ k h => by obtain ⟨ns, rfl, _⟩ := h; rfl) fun cdv A outer sh H E hr ds μ k h => ?_
  obtain ⟨ns, rfl, hns, hP1, hP2, hk⟩ := h
  have nd := sc_law.nd
  refine sv_cons (s1_set 1 nd (ev_callC cDr (hr.mono (by omega)) ((av_cons (ev_var 0 rfl) (av_cons ev_int av_nil)).is ⟨ns, rfl, hns, fun xs q dr nq => ?_⟩)))
  have q1 : P1 ≠ q := fun e => by subst e; rw [hP1] at nq; cases nq
  have q2 : P2 ≠ q := fun e => by subst e; rw [hP2] at nq; cases nq
  refine sv_cons (s1_set 2 nd (ev_callC cBk (hr.mono (by omega)) ((av_cons (ev_var 1 rfl) (av_cons ev_int av_nil)).is ⟨q, xs, 0, rfl, Mem.put_same, dr, fun b a1 BO => ?_⟩)))
  rw [Mem.put_put]
  have n6 := BO.n6
  refine sv_cons (s1_asg (ev_callC cH (hr.mono (by omega)) (av_cons0 ((ev_var 1 rfl).is (av_cons0 ((ev_var 2 rfl).is (av_cons0 (ev_tk cT (hr.mono (by omega)) (ev_var 1 rfl) ev_int Mem.put_same dr (by omega) fun v a2 v0 v1 => av_nil0 ?_))))))))
  rw [Mem.put_put]
  obtain ⟨n, rfl⟩ : ∃ n : Nat, v = n := ⟨v.toNat, by omega⟩
  refine ⟨q, xs, a2, b, n, rfl, Mem.put_same, dr, BO, by omega, fun hs s a3 hd wd gd hl => ?_⟩
  rw [Mem.put_put]
  have hl40 : hs.length ≤ 40 := by omega
  refine gv_tup rfl (gvs_cons (gv_name 3 nd (gvs_cons (gv_name 4 nd (gvs_cons (gv_name 5 nd (gvs_nil ?_)))))))
  refine sv_cons (s1_set 6 nd (ev_ix0 (ev_callC cP (hr.mono (by omega)) ((av_cons (ev_var 2 rfl) av_nil).is ⟨b, rfl, BO, by rw [Mem.put_ne q1]; exact hP1, by rw [Mem.put_ne q2]; exact hP2, fun ps l PO sm => ev_int.is (rd_ixT (d := itup ps) rfl rfl ?_)⟩))))
  have pl : ps.length = b.n := PO.ok.len
  have so := gd.sok BO
  generalize hμ : μ.put q (drw xs a3) = μ1
  have hrows : ∀ e ∈ hs, FlowOk b hs e ∧ RowOk b.n (flow b hs e) := fun e he => by
    obtain ⟨i, hi, rfl⟩ := List.getElem_of_mem he
    obtain ⟨z1, z2, _⟩ := good_rows BO gd (List.getElem?_eq_getElem hi)
    exact ⟨z1, z2⟩
  refine sv_cons (s1_set 7 nd ((ev_callC (k := Is (itup (hs.map (gainOf b hs ps))) μ1) cA (hr.mono (by omega)) ((av_cons (ev_var 2 rfl) (av_cons (ev_var 3 rfl) (av_cons (ev_var 6 rfl) av_nil))).is ⟨b, hs, ps, rfl, hrows, by omega, by omega, pl, sm, ⟨rfl, rfl⟩⟩)).is ?_))
  refine sv_cons (s1_set 8 nd (ev_int.is ?_))
  show SV _ _ [some (.scr ns), some (.ref q), some (bkD b), some (hsD hs), some (.ref hd), some (.ref wd), some (itup ps), some (itup (hs.map (gainOf b hs ps))), some (.int (worths ps (hs.take 0))), none, none, none, none, none, none] _ _
  have hval : ∀ {X : Cx} {δ : DS} {m0 : Mem} {e1 e2 : Expr} {g : IL} {p1 p2 : Pos}, Cal X.prog X.w X.K X.mg X.base "_law_value" 1 pdValue → Room 1 X.A → g.length = ps.length → EV X e1 δ m0 (Is (itup g) m0) → EV X e2 δ m0 (Is (itup ps) m0) → (hg : Gl X "_law_value") → (he : starEach [e1, e2] X.env = (false, eval e1 X.env) :: starEach [e2] X.env) → (he2 : starEach [e2] X.env = (false, eval e2 X.env) :: starEach [] X.env) → (hpl : (backTo p2 (starEach [e2] X.env)).any (·.1) = false) → EV X (.Call (.Name "_law_value" p1) [e1, e2] [] p2) δ m0 (Is (.int (val g ps)) m0) :=
    fun {X δ m0 e1 e2 g p1 p2} c r hgl h1 h2 hg he he2 hpl => ev_callC c r ((av_cons h1 (av_cons h2 av_nil he2) he).is ⟨g, ps, rfl, by omega, by omega, sm, ⟨rfl, rfl⟩⟩) hg (by decide) he hpl
  refine sv_cons (s1_forR (n := (hs.length : Nat)) 9 PassesOwn.never rfl nd (iv_range B.range (ev_callB (av_cons (ev_var 3 rfl) av_nil) (cd_len (.inl rfl) ⟨by simp, rfl⟩) B.len PySem.boot_len) (by omega) (by omega))
    (fun i δ' μ' => μ' = μ1 ∧ ∃ z9 z10 z11, δ' = [some (.scr ns), some (.ref q), some (bkD b), some (hsD hs), some (.ref hd), some (.ref wd), some (itup ps), some (itup (hs.map (gainOf b hs ps))), some (.int (worths ps (hs.take i))), z9, z10, z11, none, none, none])
    ⟨rfl, none, none, none, rfl⟩ (fun i δ' μ' hi hI => ?_) (fun δ' μ' hI => ?_))
  · obtain ⟨rfl, z9, z10, z11, rfl⟩ := hI
    have hin : i < hs.length := by omega
    have he := ev_at hin
    generalize evAt hs i = e at he
    obtain ⟨_, _, eok⟩ := good_rows BO gd he
    obtain ⟨s', g', _, qq⟩ := gd.at i (by omega)
    obtain ⟨Fi, _, gn⟩ := qq e he
    have so2 := gn.sok BO
    have tl2 : (hs.take (i + 1)).length = i + 1 := by rw [List.length_take]; omega
    have hat : atI (hs.map evD) (i : Int) = some (evD e) := atI_nat (by rw [List.getElem?_map, he]; rfl)
    have hga : atI ((hs.map (gainOf b hs ps)).map D.int) (i : Int) = some (.int (gainOf b hs ps e)) := it_get (by rw [List.getElem?_map, he]; rfl)
    refine sv_cons (s1_mid (J := fun δ2 μ2 => μ2 = μ' ∧ δ2 = [some (.scr ns), some (.ref q), some (bkD b), some (hsD hs), some (.ref hd), some (.ref wd), some (itup ps), some (itup (hs.map (gainOf b hs ps))), some (.int (worths ps (hs.take (i + 1)))), some (.int (i : Nat)), z10, z11, none, none, none]) ?_ (fun δ2 μ2 hJ => ?_))
    · show S1 _ _ [some (.scr ns), some (.ref q), some (bkD b), some (hsD hs), some (.ref hd), some (.ref wd), some (itup ps), some (itup (hs.map (gainOf b hs ps))), some (.int (worths ps (hs.take i))), some (.int (i : Nat)), z10, z11, none, none, none] _ _
      cases e with
      | forge p g =>
        have gl : g.length = ps.length := by rw [pl]; exact eok.2.len
        refine s1_ifB (c1 := true) (tv_cmp (ev_ix (ev_ix (ev_var 3 rfl) (ev_var 9 rfl) (rd_ixT rfl hat ⟨rfl, rfl⟩)) ev_int (rd_ixT rfl rfl ⟨rfl, rfl⟩)) ev_str (rd_eqS ⟨rfl, rfl⟩) ⟨rfl, rfl⟩) (fun _ => ?_) fun h => by cases h
        refine sv_cons (s1_set 8 nd ((ev_bin (k := Is (.int (worths ps (hs.take i) + val g ps)) _) (ev_var 8 rfl) (hval cV (hr.mono (by omega)) gl (ev_ix (ev_ix (ev_var 3 rfl) (ev_var 9 rfl) (rd_ixT rfl hat ⟨rfl, rfl⟩)) ev_int (rd_ixT rfl rfl ⟨rfl, rfl⟩)) (ev_var 6 rfl) (by rfl) (by rfl) (by rfl) (by rfl)) (rd_add ⟨rfl, rfl⟩)).is ?_))
        show SV _ _ [some (.scr ns), some (.ref q), some (bkD b), some (hsD hs), some (.ref hd), some (.ref wd), some (itup ps), some (itup (hs.map (gainOf b hs ps))), some (.int (worths ps (hs.take i) + val g ps)), some (.int (i : Nat)), z10, z11, none, none, none] _ _
        refine sv_one (s1_ifB (c1 := false) (tv_cmp (ev_ix (ev_var 7 rfl) (ev_var 9 rfl) (rd_ixT rfl hga ⟨rfl, rfl⟩)) (hval cV (hr.mono (by omega)) gl (ev_ix (ev_ix (ev_var 3 rfl) (ev_var 9 rfl) (rd_ixT rfl hat ⟨rfl, rfl⟩)) ev_int (rd_ixT rfl rfl ⟨rfl, rfl⟩)) (ev_var 6 rfl) (by rfl) (by rfl) (by rfl) (by rfl)) (rd_ne ⟨rfl, rfl⟩) ⟨by rw [gain_forge]; simp, rfl⟩) (fun h => by cases h) fun _ => sv_nil ⟨rfl, ?_⟩)
        rw [worths_take he]
        rfl
      | make p m g =>
        refine s1_ifB (c1 := false) (tv_cmp (ev_ix (ev_ix (ev_var 3 rfl) (ev_var 9 rfl) (rd_ixT rfl hat ⟨rfl, rfl⟩)) ev_int (rd_ixT rfl rfl ⟨rfl, rfl⟩)) ev_str (rd_eqS ⟨rfl, rfl⟩) ⟨by decide, rfl⟩) (fun h => by cases h) fun _ => sv_one ?_
        have g0 := gain_other (hs := hs) PO eok (fun _ _ h => by cases h)
        refine s1_ifB (c1 := false) (tv_cmp (ev_ix (ev_var 7 rfl) (ev_var 9 rfl) (rd_ixT rfl hga ⟨rfl, rfl⟩)) ev_int (rd_gt ⟨rfl, rfl⟩) ⟨decide_eq_false (by omega), rfl⟩) (fun h => by cases h) fun _ => sv_nil ⟨rfl, ?_⟩
        rw [worths_take he, worth_other (fun _ _ h => by cases h), Int.add_zero]
      | hand p m g =>
        refine s1_ifB (c1 := false) (tv_cmp (ev_ix (ev_ix (ev_var 3 rfl) (ev_var 9 rfl) (rd_ixT rfl hat ⟨rfl, rfl⟩)) ev_int (rd_ixT rfl rfl ⟨rfl, rfl⟩)) ev_str (rd_eqS ⟨rfl, rfl⟩) ⟨by decide, rfl⟩) (fun h => by cases h) fun _ => sv_one ?_
        have g0 := gain_other (hs := hs) PO eok (fun _ _ h => by cases h)
        refine s1_ifB (c1 := false) (tv_cmp (ev_ix (ev_var 7 rfl) (ev_var 9 rfl) (rd_ixT rfl hga ⟨rfl, rfl⟩)) ev_int (rd_gt ⟨rfl, rfl⟩) ⟨decide_eq_false (by omega), rfl⟩) (fun h => by cases h) fun _ => sv_nil ⟨rfl, ?_⟩
        rw [worths_take he, worth_other (fun _ _ h => by cases h), Int.add_zero]
      | send p t g =>
        refine s1_ifB (c1 := false) (tv_cmp (ev_ix (ev_ix (ev_var 3 rfl) (ev_var 9 rfl) (rd_ixT rfl hat ⟨rfl, rfl⟩)) ev_int (rd_ixT rfl rfl ⟨rfl, rfl⟩)) ev_str (rd_eqS ⟨rfl, rfl⟩) ⟨by decide, rfl⟩) (fun h => by cases h) fun _ => sv_one ?_
        have g0 := gain_other (hs := hs) PO eok (fun _ _ h => by cases h)
        refine s1_ifB (c1 := false) (tv_cmp (ev_ix (ev_var 7 rfl) (ev_var 9 rfl) (rd_ixT rfl hga ⟨rfl, rfl⟩)) ev_int (rd_gt ⟨rfl, rfl⟩) ⟨decide_eq_false (by omega), rfl⟩) (fun h => by cases h) fun _ => sv_nil ⟨rfl, ?_⟩
        rw [worths_take he, worth_other (fun _ _ h => by cases h), Int.add_zero]
      | land p t =>
        refine s1_ifB (c1 := false) (tv_cmp (ev_ix (ev_ix (ev_var 3 rfl) (ev_var 9 rfl) (rd_ixT rfl hat ⟨rfl, rfl⟩)) ev_int (rd_ixT rfl rfl ⟨rfl, rfl⟩)) ev_str (rd_eqS ⟨rfl, rfl⟩) ⟨by decide, rfl⟩) (fun h => by cases h) fun _ => sv_one ?_
        have g0 := gain_other (hs := hs) PO eok (fun _ _ h => by cases h)
        refine s1_ifB (c1 := false) (tv_cmp (ev_ix (ev_var 7 rfl) (ev_var 9 rfl) (rd_ixT rfl hga ⟨rfl, rfl⟩)) ev_int (rd_gt ⟨rfl, rfl⟩) ⟨decide_eq_false (by omega), rfl⟩) (fun h => by cases h) fun _ => sv_nil ⟨rfl, ?_⟩
        rw [worths_take he, worth_other (fun _ _ h => by cases h), Int.add_zero]
    · obtain ⟨rfl, rfl⟩ := hJ
      have ec := cut_ev hs (i + 1)
      refine sv_cons (s1_asg (ev_callC cO (hr.mono (by omega)) ((av_cons (ev_var 2 rfl) (av_cons (ev_slice (l := none) (u := some ((i : Int) + 1)) (k := Is (hsD (hs.take (i + 1))) μ2) (ev_var 3 rfl) .none (.some (ev_bin (ev_var 9 rfl) ev_int (rd_add ⟨rfl, rfl⟩))) (sd_tup ⟨congrArg D.tup ec, rfl⟩)) av_nil)).is ⟨b, hs.take (i + 1), _, rfl, BO, gn, by omega, fun rows ways S => gv_tup rfl (gvs_cons (gv_name 10 nd (gvs_cons (gv_name 11 nd (gvs_nil ?_)))))⟩)))
      obtain ⟨l1, l2, l3⟩ := shows_len S so2
      have wl := Mw.Good.way_len gn
      show SV _ _ [some (.scr ns), some (.ref q), some (bkD b), some (hsD hs), some (.ref hd), some (.ref wd), some (itup ps), some (itup (hs.map (gainOf b hs ps))), some (.int (worths ps (hs.take (i + 1)))), some (.int (i : Nat)), some (showD rows), some (waysD ways), none, none, none] _ _
      exact sv_one (s1_ifB (c1 := false) (tv_not2 (c1 := true) (tv_val (ev_callC cB (hr.mono (by omega)) ((av_cons (ev_var 2 rfl) (av_cons (ev_var 6 rfl) (av_cons (ev_var 10 rfl) (av_cons (ev_var 11 rfl) (av_cons (ev_var 8 rfl) av_nil))))).is ⟨bkD b, ps, rows, ways, _, rfl, S.bnd so2 PO.ok (Good.total BO PO gn), sm, by omega, fun g hg => by rw [l1 g hg, pl], by omega, by omega, ⟨rfl, rfl⟩⟩)))) (fun h => by cases h) fun _ => sv_nil ⟨rfl, _, _, _, rfl⟩)
  · obtain ⟨rfl, z9, z10, z11, rfl⟩ := hI
    subst hμ
    rw [Int.toNat_natCast, List.take_length]
    refine sv_cons (s1_set 12 nd (ev_callT0 (T := "tuple") (av_cons0 (EV.mono (k := fun d μ2 => ∃ (rec : IL) (a5 : Int), d = .lst (rec.map .int) ∧ μ2 = μ.put q (drw xs a5) ∧ RecOk ps hs hs.length rec) ?_ fun d μ2 ⟨rec, a5, e1, e2, rk⟩ => ?_)) B.tuple bt_tuple))
    · refine ev_freeze (ev_lc (own := [("_law_k", 9)]) 9 ((iv_range (n := (hs.length : Nat)) B.range (ev_callB (av_cons (ev_var 3 rfl) av_nil) (cd_len (.inl rfl) ⟨by simp, rfl⟩) B.len PySem.boot_len) (by omega) (by omega)).zero ⟨by simp; omega, fun pp npp => ⟨fun j acc μ2 => ∃ (a8 : Int) (rec : IL), μ2 = (μ.put q (drw xs a8)).put pp (.lst acc) ∧ acc = rec.map .int ∧ RecOk ps hs j rec,
        ⟨a3, [], rfl, rfl, RecOk.nil⟩, fun j acc μ2 hI => ?_, fun j d acc μ2 sh2 H C cl fp hdd hI => ?_, fun acc μ2 hI => ?_⟩⟩) sc_law)
      · obtain ⟨a8, rec, rfl, _⟩ := hI
        exact ⟨trivial, Mem.put_same⟩
      · obtain ⟨a8, rec, rfl, rfl, rk⟩ := hI
        obtain ⟨m2, m2'⟩ := ne_new npp
        obtain ⟨hjl, rfl⟩ := rg_lt hdd
        have hjl : j < hs.length := by omega
        have he := ev_at hjl
        generalize evAt hs j = e at he
        have hat : atI (hs.map evD) (j : Int) = some (evD e) := atI_nat (by rw [List.getElem?_map, he]; rfl)
        cases e with
        | forge p g =>
          refine ts_one (tv_w (wv_and (tv_cmp (c := true) (ev_ix (ev_ix (ev_var 3 rfl) (ev_var 9 rfl) (rd_ixT rfl hat ⟨rfl, rfl⟩)) ev_int (rd_ixT rfl rfl ⟨rfl, rfl⟩)) ev_str (rd_eqS ⟨rfl, rfl⟩) ⟨fun _ => wv_and1 (tv_cmpN (ev_tk cT (hr.mono (by omega)) (ev_var 1 rfl) ev_int (by rw [Mem.put_ne m2]; exact Mem.put_same) dr (by omega) fun v a9 h0 h1 => ev_int.is (rd_eq ⟨_, rfl, fun _ s H C cl fp => ?_, fun _ => ?_⟩))), nofun⟩)))
          · rw [mem2 m2]
            exact (ev_var 9 rfl).is ⟨Mem.put_same, a9, rec ++ [(j : Int)], by rw [Mem.put_put], by rw [List.map_append]; rfl, rk.take he⟩
          · rw [mem2 m2]
            exact ⟨a9, rec, rfl, rfl, rk.skip he⟩
        | make p m g => exact ts_one (tv_w (wv_and (tv_cmp (c := false) (ev_ix (ev_ix (ev_var 3 rfl) (ev_var 9 rfl) (rd_ixT rfl hat ⟨rfl, rfl⟩)) ev_int (rd_ixT rfl rfl ⟨rfl, rfl⟩)) ev_str (rd_eqS ⟨congrArg D.bl (by decide), rfl⟩) ⟨nofun, fun _ => ⟨nofun, fun _ => ⟨a8, rec, rfl, rfl, rk.skip he⟩⟩⟩)))
        | hand p m g => exact ts_one (tv_w (wv_and (tv_cmp (c := false) (ev_ix (ev_ix (ev_var 3 rfl) (ev_var 9 rfl) (rd_ixT rfl hat ⟨rfl, rfl⟩)) ev_int (rd_ixT rfl rfl ⟨rfl, rfl⟩)) ev_str (rd_eqS ⟨congrArg D.bl (by decide), rfl⟩) ⟨nofun, fun _ => ⟨nofun, fun _ => ⟨a8, rec, rfl, rfl, rk.skip he⟩⟩⟩)))
        | send p t g => exact ts_one (tv_w (wv_and (tv_cmp (c := false) (ev_ix (ev_ix (ev_var 3 rfl) (ev_var 9 rfl) (rd_ixT rfl hat ⟨rfl, rfl⟩)) ev_int (rd_ixT rfl rfl ⟨rfl, rfl⟩)) ev_str (rd_eqS ⟨congrArg D.bl (by decide), rfl⟩) ⟨nofun, fun _ => ⟨nofun, fun _ => ⟨a8, rec, rfl, rfl, rk.skip he⟩⟩⟩)))
        | land p t => exact ts_one (tv_w (wv_and (tv_cmp (c := false) (ev_ix (ev_ix (ev_var 3 rfl) (ev_var 9 rfl) (rd_ixT rfl hat ⟨rfl, rfl⟩)) ev_int (rd_ixT rfl rfl ⟨rfl, rfl⟩)) ev_str (rd_eqS ⟨congrArg D.bl (by decide), rfl⟩) ⟨nofun, fun _ => ⟨nofun, fun _ => ⟨a8, rec, rfl, rfl, rk.skip he⟩⟩⟩)))
      · obtain ⟨a8, rec, rfl, rfl, rk⟩ := hI
        obtain ⟨m2, m2'⟩ := ne_new npp
        have hpn : (μ.put q (drw xs a8)) pp = none := by rw [Mem.put_ne (Ne.symm m2)]; exact m2'
        rw [rgD_len, Int.toNat_natCast] at rk
        exact ⟨pp, _, μ.put q (drw xs a8), rfl, Mem.put_same, sub_put hpn, hpn, rec, a8, rfl, rfl, rk⟩
    · subst e1 e2
      refine av_nil0 (cd_tuple (.inr .l) ?_)
      have hrec : ∀ i : Nat, i < hs.length → rec.contains (i : Int) = true → ∃ p x, evAt hs i = .forge p x := fun i hi hc => by
        obtain ⟨m, h1, h2, h3⟩ := rk.lt (i : Int) (by simpa using hc)
        have : i = m := by omega
        subst this
        exact h3
      have rl := rk.len
      have rs := rk.sum
      rw [List.take_length] at rs
      obtain ⟨si, _, I⟩ := strike_inv BO PO gd hrec hs.length (Nat.le_refl _)
      have I1 : SOk b.n (endOf b hs rec) := I.ok
      have I2 : Mh.total ps (endOf b hs rec) ≤ leftOf ps rec hs hs.length := I.tot
      have wz : (endOf b hs rec).way.length ≤ 40 := by
        have h1 := fold_len ((srun b hs rec hs.length).stands.map (evAt hs)) []
        have h2 := stands_len b hs rec hs.length
        rw [List.length_map] at h1
        show (((srun b hs rec hs.length).stands.map (evAt hs)).foldl wayStep []).length ≤ 40
        simp only [List.length_nil] at h1
        omega
      show SV _ _ [some (.scr ns), some (.ref q), some (bkD b), some (hsD hs), some (.ref hd), some (.ref wd), some (itup ps), some (itup (hs.map (gainOf b hs ps))), some (.int (worths ps hs)), z9, z10, z11, some (itup rec), none, none] _ _
      refine sv_cons (s1_asg (ev_callC cS (hr.mono (by omega)) ((av_cons (ev_var 2 rfl) (av_cons (ev_var 3 rfl) (av_cons (ev_var 12 rfl) av_nil))).is ⟨b, hs, rec, s, ps, rfl, BO, gd, PO, by omega, hrec, fun st rows ways S => gv_tup rfl (gvs_cons (gv_name 13 nd (gvs_cons (gv_name 10 nd (gvs_cons (gv_name 11 nd (gvs_nil ?_)))))))⟩)))
      obtain ⟨l1, l2, l3⟩ := shows_len S I1
      show SV _ _ [some (.scr ns), some (.ref q), some (bkD b), some (hsD hs), some (.ref hd), some (.ref wd), some (itup ps), some (itup (hs.map (gainOf b hs ps))), some (.int (worths ps hs)), z9, some (showD rows), some (waysD ways), some (itup rec), some st, none] _ _
      refine sv_cons (s1_set 14 nd ((ev_bin (k := Is (.int (leftOf ps rec hs hs.length)) (μ.put q (drw xs a5))) (ev_var 8 rfl) (ev_callB0 (id := "sum") (k := Is (.int (rec.map fun r => worthOf ps (evAt hs r.toNat)).sum) (μ.put q (drw xs a5))) (av_cons0 ((ev_lcP (own := [("_law_k", 9)]) (k := Is (.lst ((rec.map fun r => worthOf ps (evAt hs r.toNat)).map .int)) (μ.put q (drw xs a5))) 9 (iv_tup (ev_var 12 rfl)) (by rw [List.length_map]; omega) (fun _ _ => true) (fun i _ => .int (worthOf ps (evAt hs (at0 rec i).toNat))) (fun _ _ => trivial)
        (fun i d μ' s H C cl fp hd _ => ts_nil ⟨rfl, rfl⟩) (fun i d μ' s H C cl fp hdd _ _ => ?_) (.inl ⟨?_, rfl⟩) sc_law).is (av_nil0 (cd_sum rfl .l ⟨rfl, rfl⟩)))) B.sum (by decide +kernel)) (rd_sub ⟨congrArg D.int (by omega), rfl⟩)).is ?_))
      · obtain ⟨hi, rfl⟩ := int_get hdd
        obtain ⟨m, h1, h2, p, x, h3⟩ := rk.lt _ (at0_in hi)
        have he := ev_at h2
        rw [h3] at he
        have hat : atI (hs.map evD) (at0 rec i) = some (evD (.forge p x)) := by rw [h1]; exact atI_nat (by rw [List.getElem?_map, he]; rfl)
        obtain ⟨_, _, eok⟩ := good_rows BO gd he
        have e0 : worthOf ps (evAt hs (at0 rec i).toNat) = val x ps := by rw [h1, Int.toNat_natCast, h3]; rfl
        show EV _ _ _ μ' (Is (.int (worthOf ps (evAt hs (at0 rec i).toNat))) μ')
        rw [e0]
        exact hval cV (hr.mono (by omega)) (by rw [pl]; exact eok.2.len) (ev_ix (ev_ix (ev_var 3 rfl) (ev_var 9 rfl) (rd_ixT rfl hat ⟨rfl, rfl⟩)) ev_int (rd_ixT rfl rfl ⟨rfl, rfl⟩)) (ev_var 6 rfl) (by rfl) (by rfl) (by rfl) (by rfl)
      · rw [kept_map _ _ rec (fun r => .int (worthOf ps (evAt hs r.toNat))) (by simp)]
        · rw [List.map_map]; rfl
        · intro i d x hd hx
          have e : at0 rec i = x := by unfold at0; rw [List.getD_eq_getElem?_getD, hx]; rfl
          rw [e]
      · show SV _ _ [some (.scr ns), some (.ref q), some (bkD b), some (hsD hs), some (.ref hd), some (.ref wd), some (itup ps), some (itup (hs.map (gainOf b hs ps))), some (.int (worths ps hs)), z9, some (showD rows), some (waysD ways), some (itup rec), some st, some (.int (leftOf ps rec hs hs.length))] _ _
        exact sv_one (s1_ret (ev_callC cB (hr.mono (by omega)) ((av_cons (ev_var 2 rfl) (av_cons (ev_var 6 rfl) (av_cons (ev_var 10 rfl) (av_cons (ev_var 11 rfl) (av_cons (ev_var 14 rfl) av_nil))))).is ⟨bkD b, ps, rows, ways, _, rfl, S.bnd I1 PO.ok I2, sm, by omega, fun g hg => by rw [l1 g hg, pl], by omega, by omega, hk _⟩)))
end
end Mw
set_option Elab.async false
set_option linter.all false
set_option maxRecDepth 100000
set_option maxHeartbeats 0
namespace Mw
open PySem PySem.Spec PyProof.Rows L2 DL Mh
/-! ### the head: facts by names, the run -/
def d0 : He.DefD := ⟨("plus", none), "plus", "plus", defArgs sPlus, defBody sPlus, defScope sPlus, [], []⟩
def d1 : He.DefD := ⟨("less", none), "less", "less", defArgs sLess, defBody sLess, defScope sLess, [], []⟩
def d2 : He.DefD := ⟨("covers", none), "covers", "covers", defArgs sCovers, defBody sCovers, defScope sCovers, [], []⟩
def d3 : He.DefD := ⟨("sent_stock", none), "sent_stock", "sent_stock", defArgs sSent, defBody sSent, defScope sSent, [], []⟩
def d4 : He.DefD := ⟨("flow", none), "flow", "flow", defArgs sFlow, defBody sFlow, defScope sFlow, [], []⟩
def d5 : He.DefD := ⟨("is_possible", none), "is_possible", "is_possible", defArgs sPoss, defBody sPoss, defScope sPoss, [], []⟩
def d6 : He.DefD := ⟨("carry", none), "carry", "carry", defArgs sCarry, defBody sCarry, defScope sCarry, [], []⟩
def d7 : He.DefD := ⟨("shown", none), "shown", "shown", defArgs sShown, defBody sShown, defScope sShown, [], []⟩
def d8 : He.DefD := ⟨("carry_out", none), "carry_out", "carry_out", defArgs sOut, defBody sOut, defScope sOut, [], []⟩
def d9 : He.DefD := ⟨("value_of", none), "value_of", "value_of", defArgs sValue, defBody sValue, defScope sValue, [], []⟩
def d10 : He.DefD := ⟨("gain", none), "gain", "gain", defArgs sGain, defBody sGain, defScope sGain, [], []⟩
def d11 : He.DefD := ⟨("audit", none), "audit", "audit", defArgs sAudit, defBody sAudit, defScope sAudit, [], []⟩
def d12 : He.DefD := ⟨("is_number", none), "is_number", "is_number", defArgs sNum, defBody sNum, defScope sNum, [], []⟩
def d13 : He.DefD := ⟨("is_row", none), "is_row", "is_row", defArgs sRow, defBody sRow, defScope sRow, [], []⟩
def d14 : He.DefD := ⟨("is_system", none), "is_system", "is_system", defArgs sSys, defBody sSys, defScope sSys, [], []⟩
def d15 : He.DefD := ⟨("check_system", none), "check_system", "check_system", defArgs sCheck, defBody sCheck, defScope sCheck, [], []⟩
def d16 : He.DefD := ⟨("common", none), "common", "common", defArgs sCommon, defBody sCommon, defScope sCommon, [], []⟩
def d17 : He.DefD := ⟨("reduced", none), "reduced", "reduced", defArgs sRed, defBody sRed, defScope sRed, [], []⟩
def d18 : He.DefD := ⟨("Tableau", some "__init__"), "__init__", "Tableau.__init__", defArgs sInit, defBody sInit, defScope sInit, [], []⟩
def d19 : He.DefD := ⟨("Tableau", some "entering"), "entering", "Tableau.entering", defArgs sEnt, defBody sEnt, defScope sEnt, [], []⟩
def d20 : He.DefD := ⟨("Tableau", some "is_tighter"), "is_tighter", "Tableau.is_tighter", defArgs sTight, defBody sTight, defScope sTight, [], []⟩
def d21 : He.DefD := ⟨("Tableau", some "leaving"), "leaving", "Tableau.leaving", defArgs sLeav, defBody sLeav, defScope sLeav, [], []⟩
def d22 : He.DefD := ⟨("Tableau", some "cleared"), "cleared", "Tableau.cleared", defArgs sClr, defBody sClr, defScope sClr, [], []⟩
def d23 : He.DefD := ⟨("Tableau", some "turn"), "turn", "Tableau.turn", defArgs sTurn, defBody sTurn, defScope sTurn, [], []⟩
def d24 : He.DefD := ⟨("Tableau", some "weights"), "weights", "Tableau.weights", defArgs sWts, defBody sWts, defScope sWts, [], []⟩
def d25 : He.DefD := ⟨("Tableau", some "ray"), "ray", "Tableau.ray", defArgs sRay, defBody sRay, defScope sRay, [], []⟩
def d26 : He.DefD := ⟨("Tableau", some "prices"), "prices", "Tableau.prices", defArgs sPrc, defBody sPrc, defScope sPrc, [], []⟩
def d27 : He.DefD := ⟨("optimum", none), "optimum", "optimum", defArgs sOpt, defBody sOpt, defScope sOpt, [], []⟩
def d28 : He.DefD := ⟨("solve", none), "solve", "solve", defArgs sSolve, defBody sSolve, defScope sSolve, [], []⟩
def d29 : He.DefD := ⟨("price_system", none), "price_system", "price_system", defArgs sPS, defBody sPS, defScope sPS, [], []⟩
def d30 : He.DefD := ⟨("added", none), "added", "added", defArgs sAdded, defBody sAdded, defScope sAdded, [], []⟩
def d31 : He.DefD := ⟨("parting", none), "parting", "parting", defArgs sPart, defBody sPart, defScope sPart, [], []⟩
def d32 : He.DefD := ⟨("way_of", none), "way_of", "way_of", defArgs sWayOf, defBody sWayOf, defScope sWayOf, [], []⟩
def d33 : He.DefD := ⟨("strike", none), "strike", "strike", defArgs sStrike, defBody sStrike, defScope sStrike, [], []⟩
def d34 : He.DefD := ⟨("_law_mix", none), "_law_mix", "_law_mix", defArgs sMix, defBody sMix, defScope sMix, [], []⟩
def d35 : He.DefD := ⟨("_law_numbers", none), "_law_numbers", "_law_numbers", defArgs sNbs, defBody sNbs, defScope sNbs, [], []⟩
def d36 : He.DefD := ⟨("_law_draws", none), "_law_draws", "_law_draws", defArgs sDraws, defBody sDraws, defScope sDraws, [], []⟩
def d37 : He.DefD := ⟨("_law_take", none), "_law_take", "_law_take", defArgs sTake, defBody sTake, defScope sTake, [], []⟩
def d38 : He.DefD := ⟨("_law_named", none), "_law_named", "_law_named", defArgs sNamed, defBody sNamed, defScope sNamed, [], []⟩
def d39 : He.DefD := ⟨("_law_stock", none), "_law_stock", "_law_stock", defArgs sStock, defBody sStock, defScope sStock, [], []⟩
def d40 : He.DefD := ⟨("_law_book", none), "_law_book", "_law_book", defArgs sBook, defBody sBook, defScope sBook, [], []⟩
def d41 : He.DefD := ⟨("_law_event", none), "_law_event", "_law_event", defArgs sEvent, defBody sEvent, defScope sEvent, [], []⟩
def d42 : He.DefD := ⟨("_law_flow", none), "_law_flow", "_law_flow", defArgs sLFlow, defBody sLFlow, defScope sLFlow, [], []⟩
def d43 : He.DefD := ⟨("_law_done", none), "_law_done", "_law_done", defArgs sDone, defBody sDone, defScope sDone, [], []⟩
def d44 : He.DefD := ⟨("_law_history", none), "_law_history", "_law_history", defArgs sHist, defBody sHist, defScope sHist, [], []⟩
def d45 : He.DefD := ⟨("_law_value", none), "_law_value", "_law_value", defArgs sLVal, defBody sLVal, defScope sLVal, [], []⟩
def d46 : He.DefD := ⟨("_law_bounded", none), "_law_bounded", "_law_bounded", defArgs sBnd, defBody sBnd, defScope sBnd, [], []⟩
def d47 : He.DefD := ⟨("law", none), "law", "law", defArgs sLaw, defBody sLaw, defScope sLaw, [], []⟩
def fns : List He.DefD := [d0, d1, d2, d3, d4, d5, d6, d7, d8, d9, d10, d11, d12, d13, d14, d15, d16, d17, d18, d19, d20, d21, d22, d23] ++ [d24, d25, d26, d27, d28, d29, d30, d31, d32, d33, d34, d35, d36, d37, d38, d39, d40, d41, d42, d43, d44, d45, d46, d47]
def fac : List He.Fa := [.glo "plus", .glo "less", .glo "covers", .glo "sent_stock", .glo "flow", .glo "is_possible", .glo "carry", .glo "shown", .glo "carry_out", .glo "value_of", .glo "gain", .glo "audit", .glo "is_number", .glo "is_row", .glo "is_system", .glo "check_system", .glo "common", .glo "reduced", .meth "Tableau" "__init__", .meth "Tableau" "entering", .meth "Tableau" "is_tighter", .meth "Tableau" "leaving", .meth "Tableau" "cleared", .meth "Tableau" "turn", .meth "Tableau" "weights", .meth "Tableau" "ray", .meth "Tableau" "prices", .glo "optimum", .glo "solve", .glo "price_system", .glo "added", .glo "parting", .glo "way_of", .glo "strike", .glo "_law_mix", .glo "_law_numbers"] ++ [.glo "_law_draws", .glo "_law_take", .glo "_law_named", .glo "_law_stock", .glo "_law_book", .glo "_law_event", .glo "_law_flow", .glo "_law_done", .glo "_law_history", .glo "_law_value", .glo "_law_bounded", .glo "law", .glo "Tableau", .cls "Tableau", .mkr "Tableau", .noat "Tableau" "width", .noat "Tableau" "count", .noat "Tableau" "rows", .noat "Tableau" "goal", .noat "Tableau" "basis", .noat "Tableau" "scale", .free "abs", .free "all", .free "any", .free "bool", .free "int", .free "isinstance", .free "len", .free "max", .free "min", .free "range", .free "sorted", .free "sum", .free "tuple", .int "MAX_ENTRY" 1000000, .int "MOST_ROWS" 20]
def tf : List He.Defn := [("is_row", none), ("is_system", none)]
def loose : List Str := (["__name__", "MintError", "NotPossible", "BadSystem", "plus", "less", "covers", "sent_stock", "flow", "is_possible", "carry", "shown", "carry_out", "value_of", "gain", "audit", "MAX_ENTRY", "MOST_ROWS", "is_number", "is_row", "is_system", "check_system", "common", "reduced"] : List Str) ++ (["solve", "Tableau", "optimum", "price_system", "added", "parting", "way_of", "strike", "_law_mix", "_law_numbers", "_law_draws", "_law_take", "_law_named", "_law_stock", "_law_book", "_law_event", "_law_flow", "_law_done", "_law_history", "_law_shown", "_law_way", "_law_value", "_law_bounded"] : List Str)
abbrev lawRow : PySem.W.OpenRow := PySem.W.OpenLaw.row PySem.Challenge.rw_mintlaw_k63_whole_only_forgeries_gain
abbrev hk : PySem.W.Hook := He.hookX 4 fac fns [] tf fun _ => true
def ob (s : PySem.W.SharedT) : He.AlX := He.obsX 4 fac fns [] tf (fun _ => true) (HandSHeadRun.getT s)
theorem ob_eq (s : PySem.W.SharedT) : ob s = hk.obs s.abs := He.obsX_eq (HandSHeadRun.getT_eq s)
theorem run (w : World) : HandSHeadRun.RunEq lawRow (PySem.W.view lawRow.prog [53]) hk ob 3000 loose w := by
  intro os
  kernel_rfl
theorem code_of {K : PySem.W.Frag} {d : He.DefD} {dv : List V} {kw : List (Str × V)} {fd : FuncData} (F : FunD K d.name d.qual d.params d.body d.scope dv kw (He.fAd K d.at_) fd) : fd.code = .ref (He.codeOf K d.at_) := by
  obtain ⟨oc, od, dV, kV, doc, pm, an, cdv, ct, osl, e, lk, hcd, _, _⟩ := F.ex
  subst e
  obtain ⟨c, hc⟩ := He.codeIn_ref hcd
  have hc2 : (PySem.W.fnOf d.name d.qual d.params d.body d.scope dV kV doc pm an cdv ct).code = .ref c := hc
  rw [hc2, He.codeOf_eq lk hc2]
theorem tab_of {base : Heap} {mg : Str → Option Value} {c P : Addr} (t : LamX.TabB base mg c P) : GxR.TabB base mg c P := ⟨t.code, t.bm, t.gP⟩
/-- the memory at the start: the two tables -/
def mem0 (P1 P2 : Addr) : Mem := fun b => if b = P1 ∨ b = P2 then some .tab else none
theorem start_law {K : PySem.W.Frag} {P1 P2 a : Addr} {H : Hp} {ns : List Int} {E : XK} (hl : ns.length ≤ 63) (h1 : H P1 = some (.tbl #[])) (h2 : H P2 = some (.tbl #[])) (hS : SqL K H a (ns.map V.int)) : dsp K (pdLaw P1 P2) [.ref a] H (fun v _ => v = .bl true) E := by
  refine ⟨[.scr ns], mem0 P1 P2, fun d _ => d = .bl true, .cons (.scr ?_) .nil, ?_, ⟨ns, rfl, hl, if_pos (.inl rfl), if_pos (.inr rfl), fun _ => rfl⟩, ?_⟩
  · rcases hS with r | ⟨o, its, n, z⟩
    · refine .inl ⟨r, if_neg fun q => ?_⟩
      have key : ∀ {p : Addr}, H p = some (.tbl #[]) → a = p → False := fun {p} hp e => by
        subst e
        rcases r with r | ⟨o, r⟩
        · rw [hp] at r; cases r
        · rw [hp] at r; cases r
      rcases q with q | q
      · exact key h1 q
      · exact key h2 q
    · exact .inr fun H' => .inr ⟨o, its, n, z⟩
  · intro b o e
    unfold mem0 at e
    split at e
    · rename_i q
      cases e
      rcases q with rfl | rfl
      · exact ⟨#[], h1, trivial⟩
      · exact ⟨#[], h2, trivial⟩
    · cases e
  · intro v d μ' H' e _ _ r
    subst e
    exact r.bl_eq
theorem law_at {w : World} {mg : Str → Option Value} {fa : Addr} {h : Heap} {K : PySem.W.Frag} (X : K.In h) (G : h.Ns mainGlobals mg) (hfa : mg ("law" : Str) = some (.ref fa)) (c : He.SaysX fac fns [] tf (fun _ => true) w h K) :
    LamX.LawAtS PySem.Challenge.rw_mintlaw_k63_whole_only_forgeries_gain w K CX0 9 63 "_law_script" mg fa h := by
  have sd := c.t.d
  obtain ⟨fd0, F0⟩ := sd.def_ 0 (d := d0) rfl
  obtain ⟨fd1, F1⟩ := sd.def_ 1 (d := d1) rfl
  obtain ⟨fd2, F2⟩ := sd.def_ 2 (d := d2) rfl
  obtain ⟨fd3, F3⟩ := sd.def_ 3 (d := d3) rfl
  obtain ⟨fd4, F4⟩ := sd.def_ 4 (d := d4) rfl
  obtain ⟨fd5, F5⟩ := sd.def_ 5 (d := d5) rfl
  obtain ⟨fd6, F6⟩ := sd.def_ 6 (d := d6) rfl
  obtain ⟨fd7, F7⟩ := sd.def_ 7 (d := d7) rfl
  obtain ⟨fd8, F8⟩ := sd.def_ 8 (d := d8) rfl
  obtain ⟨fd9, F9⟩ := sd.def_ 9 (d := d9) rfl
  obtain ⟨fd10, F10⟩ := sd.def_ 10 (d := d10) rfl
  obtain ⟨fd11, F11⟩ := sd.def_ 11 (d := d11) rfl
  obtain ⟨fd12, F12⟩ := sd.def_ 12 (d := d12) rfl
  obtain ⟨fd13, F13⟩ := sd.def_ 13 (d := d13) rfl
  obtain ⟨fd14, F14⟩ := sd.def_ 14 (d := d14) rfl
  obtain ⟨fd15, F15⟩ := sd.def_ 15 (d := d15) rfl
  obtain ⟨fd16, F16⟩ := sd.def_ 16 (d := d16) rfl
  obtain ⟨fd17, F17⟩ := sd.def_ 17 (d := d17) rfl
  obtain ⟨fd18, F18⟩ := sd.def_ 18 (d := d18) rfl
  obtain ⟨fd19, F19⟩ := sd.def_ 19 (d := d19) rfl
  obtain ⟨fd20, F20⟩ := sd.def_ 20 (d := d20) rfl
  obtain ⟨fd21, F21⟩ := sd.def_ 21 (d := d21) rfl
  obtain ⟨fd22, F22⟩ := sd.def_ 22 (d := d22) rfl
  obtain ⟨fd23, F23⟩ := sd.def_ 23 (d := d23) rfl
  obtain ⟨fd24, F24⟩ := sd.def_ 24 (d := d24) rfl
  obtain ⟨fd25, F25⟩ := sd.def_ 25 (d := d25) rfl
  obtain ⟨fd26, F26⟩ := sd.def_ 26 (d := d26) rfl
  obtain ⟨fd27, F27⟩ := sd.def_ 27 (d := d27) rfl
  obtain ⟨fd28, F28⟩ := sd.def_ 28 (d := d28) rfl
  obtain ⟨fd29, F29⟩ := sd.def_ 29 (d := d29) rfl
  obtain ⟨fd30, F30⟩ := sd.def_ 30 (d := d30) rfl
  obtain ⟨fd31, F31⟩ := sd.def_ 31 (d := d31) rfl
  obtain ⟨fd32, F32⟩ := sd.def_ 32 (d := d32) rfl
  obtain ⟨fd33, F33⟩ := sd.def_ 33 (d := d33) rfl
  obtain ⟨fd34, F34⟩ := sd.def_ 34 (d := d34) rfl
  obtain ⟨fd35, F35⟩ := sd.def_ 35 (d := d35) rfl
  obtain ⟨fd36, F36⟩ := sd.def_ 36 (d := d36) rfl
  obtain ⟨fd37, F37⟩ := sd.def_ 37 (d := d37) rfl
  obtain ⟨fd38, F38⟩ := sd.def_ 38 (d := d38) rfl
  obtain ⟨fd39, F39⟩ := sd.def_ 39 (d := d39) rfl
  obtain ⟨fd40, F40⟩ := sd.def_ 40 (d := d40) rfl
  obtain ⟨fd41, F41⟩ := sd.def_ 41 (d := d41) rfl
  obtain ⟨fd42, F42⟩ := sd.def_ 42 (d := d42) rfl
  obtain ⟨fd43, F43⟩ := sd.def_ 43 (d := d43) rfl
  obtain ⟨fd44, F44⟩ := sd.def_ 44 (d := d44) rfl
  obtain ⟨fd45, F45⟩ := sd.def_ 45 (d := d45) rfl
  obtain ⟨fd46, F46⟩ := sd.def_ 46 (d := d46) rfl
  obtain ⟨fd47, F47⟩ := sd.def_ 47 (d := d47) rfl
  have g0 := He.glo_ok X G (sd.fact 0 (f := .glo "plus") rfl)
  have g1 := He.glo_ok X G (sd.fact 1 (f := .glo "less") rfl)
  have g2 := He.glo_ok X G (sd.fact 2 (f := .glo "covers") rfl)
  have g3 := He.glo_ok X G (sd.fact 3 (f := .glo "sent_stock") rfl)
  have g4 := He.glo_ok X G (sd.fact 4 (f := .glo "flow") rfl)
  have g5 := He.glo_ok X G (sd.fact 5 (f := .glo "is_possible") rfl)
  have g6 := He.glo_ok X G (sd.fact 6 (f := .glo "carry") rfl)
  have g7 := He.glo_ok X G (sd.fact 7 (f := .glo "shown") rfl)
  have g8 := He.glo_ok X G (sd.fact 8 (f := .glo "carry_out") rfl)
  have g9 := He.glo_ok X G (sd.fact 9 (f := .glo "value_of") rfl)
  have g10 := He.glo_ok X G (sd.fact 10 (f := .glo "gain") rfl)
  have g11 := He.glo_ok X G (sd.fact 11 (f := .glo "audit") rfl)
  have g12 := He.glo_ok X G (sd.fact 12 (f := .glo "is_number") rfl)
  have g13 := He.glo_ok X G (sd.fact 13 (f := .glo "is_row") rfl)
  have g14 := He.glo_ok X G (sd.fact 14 (f := .glo "is_system") rfl)
  have g15 := He.glo_ok X G (sd.fact 15 (f := .glo "check_system") rfl)
  have g16 := He.glo_ok X G (sd.fact 16 (f := .glo "common") rfl)
  have g17 := He.glo_ok X G (sd.fact 17 (f := .glo "reduced") rfl)
  have g18 := He.meth_ok (sd.fact 18 (f := .meth "Tableau" "__init__") rfl)
  have g19 := He.meth_ok (sd.fact 19 (f := .meth "Tableau" "entering") rfl)
  have g20 := He.meth_ok (sd.fact 20 (f := .meth "Tableau" "is_tighter") rfl)
  have g21 := He.meth_ok (sd.fact 21 (f := .meth "Tableau" "leaving") rfl)
  have g22 := He.meth_ok (sd.fact 22 (f := .meth "Tableau" "cleared") rfl)
  have g23 := He.meth_ok (sd.fact 23 (f := .meth "Tableau" "turn") rfl)
  have g24 := He.meth_ok (sd.fact 24 (f := .meth "Tableau" "weights") rfl)
  have g25 := He.meth_ok (sd.fact 25 (f := .meth "Tableau" "ray") rfl)
  have g26 := He.meth_ok (sd.fact 26 (f := .meth "Tableau" "prices") rfl)
  have g27 := He.glo_ok X G (sd.fact 27 (f := .glo "optimum") rfl)
  have g28 := He.glo_ok X G (sd.fact 28 (f := .glo "solve") rfl)
  have g29 := He.glo_ok X G (sd.fact 29 (f := .glo "price_system") rfl)
  have g30 := He.glo_ok X G (sd.fact 30 (f := .glo "added") rfl)
  have g31 := He.glo_ok X G (sd.fact 31 (f := .glo "parting") rfl)
  have g32 := He.glo_ok X G (sd.fact 32 (f := .glo "way_of") rfl)
  have g33 := He.glo_ok X G (sd.fact 33 (f := .glo "strike") rfl)
  have g34 := He.glo_ok X G (sd.fact 34 (f := .glo "_law_mix") rfl)
  have g35 := He.glo_ok X G (sd.fact 35 (f := .glo "_law_numbers") rfl)
  have g36 := He.glo_ok X G (sd.fact 36 (f := .glo "_law_draws") rfl)
  have g37 := He.glo_ok X G (sd.fact 37 (f := .glo "_law_take") rfl)
  have g38 := He.glo_ok X G (sd.fact 38 (f := .glo "_law_named") rfl)
  have g39 := He.glo_ok X G (sd.fact 39 (f := .glo "_law_stock") rfl)
  have g40 := He.glo_ok X G (sd.fact 40 (f := .glo "_law_book") rfl)
  have g41 := He.glo_ok X G (sd.fact 41 (f := .glo "_law_event") rfl)
  have g42 := He.glo_ok X G (sd.fact 42 (f := .glo "_law_flow") rfl)
  have g43 := He.glo_ok X G (sd.fact 43 (f := .glo "_law_done") rfl)
  have g44 := He.glo_ok X G (sd.fact 44 (f := .glo "_law_history") rfl)
  have g45 := He.glo_ok X G (sd.fact 45 (f := .glo "_law_value") rfl)
  have g46 := He.glo_ok X G (sd.fact 46 (f := .glo "_law_bounded") rfl)
  have g47 := He.glo_ok X G (sd.fact 47 (f := .glo "law") rfl)
  have gT := He.glo_ok X G (sd.fact 48 (f := .glo "Tableau") rfl)
  have mk := He.mkr_ok (sd.fact 50 (f := .mkr "Tableau") rfl)
  have T : TC K (He.ga K "Tableau") := ⟨He.cls_ok (sd.fact 49 (f := .cls "Tableau") rfl), He.noat_ok (sd.fact 51 (f := .noat "Tableau" "width") rfl), He.noat_ok (sd.fact 52 (f := .noat "Tableau" "count") rfl), He.noat_ok (sd.fact 53 (f := .noat "Tableau" "rows") rfl), He.noat_ok (sd.fact 54 (f := .noat "Tableau" "goal") rfl), He.noat_ok (sd.fact 55 (f := .noat "Tableau" "basis") rfl), He.noat_ok (sd.fact 56 (f := .noat "Tableau" "scale") rfl)⟩
  have B : Bt mg := ⟨He.free_ok X G (sd.fact 57 (f := .free "abs") rfl), He.free_ok X G (sd.fact 58 (f := .free "all") rfl), He.free_ok X G (sd.fact 59 (f := .free "any") rfl), He.free_ok X G (sd.fact 60 (f := .free "bool") rfl), He.free_ok X G (sd.fact 61 (f := .free "int") rfl), He.free_ok X G (sd.fact 62 (f := .free "isinstance") rfl), He.free_ok X G (sd.fact 63 (f := .free "len") rfl), He.free_ok X G (sd.fact 64 (f := .free "max") rfl), He.free_ok X G (sd.fact 65 (f := .free "min") rfl), He.free_ok X G (sd.fact 66 (f := .free "range") rfl), He.free_ok X G (sd.fact 67 (f := .free "sorted") rfl), He.free_ok X G (sd.fact 68 (f := .free "sum") rfl), He.free_ok X G (sd.fact 69 (f := .free "tuple") rfl)⟩
  have hM1 := He.int_ok X G (sd.fact 70 (f := .int "MAX_ENTRY" 1000000) rfl)
  have hM2 := He.int_ok X G (sd.fact 71 (f := .int "MOST_ROWS" 20) rfl)
  have hc1 := code_of (d := d13) F13
  have hc2 := code_of (d := d14) F14
  have e := hfa.symm.trans g47
  cases e
  have hb := FunD.bindsA (ps := ["_law_script"]) F47 fun _ _ _ _ _ _ us hl => match us, hl with | [_], _ => rfl
  generalize hP1 : (He.cT K ("is_row", none)).2 = P1
  generalize hP2 : (He.cT K ("is_system", none)).2 = P2
  have mem : ∀ {Q : Addr × Addr → Prop}, (∀ p ∈ tf, Q (He.cT K p)) → ∀ p ∈ tf.map (He.cT K), Q p := fun {Q} z p hp => by
    obtain ⟨q, hq, e⟩ := List.mem_map.mp hp
    rw [← e]
    exact z q hq
  refine ⟨fd47, tf.map (He.cT K), dsp K (pdLaw P1 P2), mem (Q := fun p => h.get? p.2 = some { cls := .none, data := .fields #[] }) c.empty, mem (Q := fun p => K.lookup p.2 = none) c.out, mem (Q := fun p => PySem.W.CodeHd h p.1 p.2) fun p hp => PySem.W.codeHd_of_K X (c.hd p hp), fun s v => hb s [v] rfl, fun H a ns hl _ hT hS => ?_, fun base hK hN hTB => ?_⟩
  · refine start_law hl ?_ ?_ hS
    · rw [← hP1]; exact hT _ (List.mem_map.mpr ⟨_, List.mem_cons_self .., rfl⟩)
    · rw [← hP2]; exact hT _ (List.mem_map.mpr ⟨_, List.mem_cons_of_mem _ (List.mem_cons_self ..), rfl⟩)
  have TB1 := tab_of (hTB (He.cT K ("is_row", none)) (List.mem_map.mpr ⟨_, List.mem_cons_self .., rfl⟩))
  have TB2 := tab_of (hTB (He.cT K ("is_system", none)) (List.mem_map.mpr ⟨_, List.mem_cons_of_mem _ (List.mem_cons_self ..), rfl⟩))
  rw [hP1] at TB1
  rw [hP2] at TB2
  have c_plus : Cal PySem.Challenge.rw_mintlaw_k63_whole_only_forgeries_gain.prog w K mg base "plus" 1 (pdPlus) := ⟨_, _, _, g0, F0.kp, F0.bindsN fun _ _ _ _ _ _ us hl => match us, hl with | [_, _], _ => rfl, ok_plus F0 B⟩
  have c_less : Cal PySem.Challenge.rw_mintlaw_k63_whole_only_forgeries_gain.prog w K mg base "less" 1 (pdLess) := ⟨_, _, _, g1, F1.kp, F1.bindsN fun _ _ _ _ _ _ us hl => match us, hl with | [_, _], _ => rfl, ok_less F1 B⟩
  have c_covers : Cal PySem.Challenge.rw_mintlaw_k63_whole_only_forgeries_gain.prog w K mg base "covers" 1 (pdCovers) := ⟨_, _, _, g2, F2.kp, F2.bindsN fun _ _ _ _ _ _ us hl => match us, hl with | [_, _], _ => rfl, ok_covers F2 B⟩
  have c_sent_stock : Cal PySem.Challenge.rw_mintlaw_k63_whole_only_forgeries_gain.prog w K mg base "sent_stock" 1 (pdSent) := ⟨_, _, _, g3, F3.kp, F3.bindsN fun _ _ _ _ _ _ us hl => match us, hl with | [_, _], _ => rfl, ok_sent F3 B⟩
  have c_flow : Cal PySem.Challenge.rw_mintlaw_k63_whole_only_forgeries_gain.prog w K mg base "flow" 2 (pdFlow) := ⟨_, _, _, g4, F4.kp, F4.bindsN fun _ _ _ _ _ _ us hl => match us, hl with | [_, _, _], _ => rfl, ok_flow F4 B c_sent_stock⟩
  have c_is_possible : Cal PySem.Challenge.rw_mintlaw_k63_whole_only_forgeries_gain.prog w K mg base "is_possible" 2 (pdPoss) := ⟨_, _, _, g5, F5.kp, F5.bindsN fun _ _ _ _ _ _ us hl => match us, hl with | [_, _], _ => rfl, ok_poss F5 B c_covers⟩
  have c_carry : Cal PySem.Challenge.rw_mintlaw_k63_whole_only_forgeries_gain.prog w K mg base "carry" 2 (pdCarry) := ⟨_, _, _, g6, F6.kp, F6.bindsN fun _ _ _ _ _ _ us hl => match us, hl with | [_, _], _ => rfl, ok_carry F6 B c_less c_plus⟩
  have c_shown : Cal PySem.Challenge.rw_mintlaw_k63_whole_only_forgeries_gain.prog w K mg base "shown" 1 (pdShown) := ⟨_, _, _, g7, F7.kp, F7.bindsN fun _ _ _ _ _ _ us hl => match us, hl with | [_], _ => rfl, ok_shown F7 B⟩
  have c_carry_out : Cal PySem.Challenge.rw_mintlaw_k63_whole_only_forgeries_gain.prog w K mg base "carry_out" 3 (pdOut) := ⟨_, _, _, g8, F8.kp, F8.bindsN fun _ _ _ _ _ _ us hl => match us, hl with | [_, _], _ => rfl, ok_out F8 B c_flow c_is_possible c_carry c_shown⟩
  have c_value_of : Cal PySem.Challenge.rw_mintlaw_k63_whole_only_forgeries_gain.prog w K mg base "value_of" 1 (pdValue) := ⟨_, _, _, g9, F9.kp, F9.bindsN fun _ _ _ _ _ _ us hl => match us, hl with | [_, _], _ => rfl, ok_value F9 B⟩
  have c_gain : Cal PySem.Challenge.rw_mintlaw_k63_whole_only_forgeries_gain.prog w K mg base "gain" 3 (pdGain) := ⟨_, _, _, g10, F10.kp, F10.bindsN fun _ _ _ _ _ _ us hl => match us, hl with | [_, _, _, _], _ => rfl, ok_gain F10 B c_flow c_value_of⟩
  have c_audit : Cal PySem.Challenge.rw_mintlaw_k63_whole_only_forgeries_gain.prog w K mg base "audit" 4 (pdAudit) := ⟨_, _, _, g11, F11.kp, F11.bindsN fun _ _ _ _ _ _ us hl => match us, hl with | [_, _, _], _ => rfl, ok_audit F11 B c_gain⟩
  have c_is_number : Cal PySem.Challenge.rw_mintlaw_k63_whole_only_forgeries_gain.prog w K mg base "is_number" 1 (pdNum) := ⟨_, _, _, g12, F12.kp, F12.bindsN fun _ _ _ _ _ _ us hl => match us, hl with | [_, _, _], _ => rfl, ok_num F12 B⟩
  have c_is_row : Cal PySem.Challenge.rw_mintlaw_k63_whole_only_forgeries_gain.prog w K mg base "is_row" 3 (pdRow P1) := ⟨_, _, _, g13, F13.kp, F13.bindsN fun _ _ _ _ _ _ us hl => match us, hl with | [_, _], _ => rfl, ok_row F13 hc1 TB1 B hM1 c_is_number⟩
  have c_is_system : Cal PySem.Challenge.rw_mintlaw_k63_whole_only_forgeries_gain.prog w K mg base "is_system" 5 (pdSys P1 P2) := ⟨_, _, _, g14, F14.kp, F14.bindsN fun _ _ _ _ _ _ us hl => match us, hl with | [_, _], _ => rfl, ok_sys F14 hc2 TB2 B hM2 c_is_number c_is_row⟩
  have c_check_system : Cal PySem.Challenge.rw_mintlaw_k63_whole_only_forgeries_gain.prog w K mg base "check_system" 6 (pdCheck P1 P2) := ⟨_, _, _, g15, F15.kp, F15.bindsN fun _ _ _ _ _ _ us hl => match us, hl with | [_, _], _ => rfl, ok_check F15 B c_is_system⟩
  have c_common : Cal PySem.Challenge.rw_mintlaw_k63_whole_only_forgeries_gain.prog w K mg base "common" 1 (pdCommon) := ⟨_, _, _, g16, F16.kp, F16.bindsN fun _ _ _ _ _ _ us hl => match us, hl with | [_], _ => rfl, ok_common F16 B⟩
  have c_reduced : Cal PySem.Challenge.rw_mintlaw_k63_whole_only_forgeries_gain.prog w K mg base "reduced" 2 (pdRed) := ⟨_, _, _, g17, F17.kp, F17.bindsN fun _ _ _ _ _ _ us hl => match us, hl with | [_], _ => rfl, ok_red F17 B c_common⟩
  have m___init__ : CalI PySem.Challenge.rw_mintlaw_k63_whole_only_forgeries_gain.prog w K mg base "Tableau" (He.ga K "Tableau") 1 (pdInit (He.ga K "Tableau")) := ⟨_, _, _, gT, mk, F18.bindsN fun _ _ _ _ _ _ us hl => match us, hl with | [_, _, _, _], _ => rfl, ok_init F18 B T⟩
  have m_entering : CalM PySem.Challenge.rw_mintlaw_k63_whole_only_forgeries_gain.prog w K mg base (He.ga K "Tableau") "entering" 1 (pdEnt (He.ga K "Tableau")) := ⟨_, _, _, g19, F19.bindsN fun _ _ _ _ _ _ us hl => match us, hl with | [_], _ => rfl, ok_ent F19 B T⟩
  have m_is_tighter : CalM PySem.Challenge.rw_mintlaw_k63_whole_only_forgeries_gain.prog w K mg base (He.ga K "Tableau") "is_tighter" 1 (pdTight (He.ga K "Tableau")) := ⟨_, _, _, g20, F20.bindsN fun _ _ _ _ _ _ us hl => match us, hl with | [_, _, _, _], _ => rfl, ok_tight F20 B T⟩
  have m_leaving : CalM PySem.Challenge.rw_mintlaw_k63_whole_only_forgeries_gain.prog w K mg base (He.ga K "Tableau") "leaving" 2 (pdLeav (He.ga K "Tableau")) := ⟨_, _, _, g21, F21.bindsN fun _ _ _ _ _ _ us hl => match us, hl with | [_, _], _ => rfl, ok_leav F21 B T m_is_tighter⟩
  have m_cleared : CalM PySem.Challenge.rw_mintlaw_k63_whole_only_forgeries_gain.prog w K mg base (He.ga K "Tableau") "cleared" 1 (pdClr (He.ga K "Tableau")) := ⟨_, _, _, g22, F22.bindsN fun _ _ _ _ _ _ us hl => match us, hl with | [_, _, _, _, _], _ => rfl, ok_clr F22 B T⟩
  have m_turn : CalM PySem.Challenge.rw_mintlaw_k63_whole_only_forgeries_gain.prog w K mg base (He.ga K "Tableau") "turn" 2 (pdTurn (He.ga K "Tableau")) := ⟨_, _, _, g23, F23.bindsN fun _ _ _ _ _ _ us hl => match us, hl with | [_, _, _], _ => rfl, ok_turn F23 B T m_cleared⟩
  have m_weights : CalM PySem.Challenge.rw_mintlaw_k63_whole_only_forgeries_gain.prog w K mg base (He.ga K "Tableau") "weights" 1 (pdWts (He.ga K "Tableau")) := ⟨_, _, _, g24, F24.bindsN fun _ _ _ _ _ _ us hl => match us, hl with | [_], _ => rfl, ok_wts F24 B T⟩
  have m_ray : CalM PySem.Challenge.rw_mintlaw_k63_whole_only_forgeries_gain.prog w K mg base (He.ga K "Tableau") "ray" 1 (pdRay (He.ga K "Tableau")) := ⟨_, _, _, g25, F25.bindsN fun _ _ _ _ _ _ us hl => match us, hl with | [_, _], _ => rfl, ok_ray F25 B T⟩
  have m_prices : CalM PySem.Challenge.rw_mintlaw_k63_whole_only_forgeries_gain.prog w K mg base (He.ga K "Tableau") "prices" 1 (pdPrc (He.ga K "Tableau")) := ⟨_, _, _, g26, F26.bindsN fun _ _ _ _ _ _ us hl => match us, hl with | [_], _ => rfl, ok_prc F26 B T⟩
  have c_optimum : Cal PySem.Challenge.rw_mintlaw_k63_whole_only_forgeries_gain.prog w K mg base "optimum" 3 (pdOpt) := ⟨_, _, _, g27, F27.kp, F27.bindsN fun _ _ _ _ _ _ us hl => match us, hl with | [_, _, _], _ => rfl, ok_opt F27 B T m___init__ m_entering m_leaving m_turn m_ray m_prices m_weights c_reduced⟩
  have c_solve : Cal PySem.Challenge.rw_mintlaw_k63_whole_only_forgeries_gain.prog w K mg base "solve" 7 (pdSolve P1 P2) := ⟨_, _, _, g28, F28.kp, F28.bindsN fun _ _ _ _ _ _ us hl => match us, hl with | [_, _], _ => rfl, ok_solve F28 B c_check_system c_optimum⟩
  have c_price_system : Cal PySem.Challenge.rw_mintlaw_k63_whole_only_forgeries_gain.prog w K mg base "price_system" 1 (pdPS) := ⟨_, _, _, g29, F29.kp, F29.bindsN fun _ _ _ _ _ _ us hl => match us, hl with | [_, _], _ => rfl, ok_ps F29 B⟩
  have c_added : Cal PySem.Challenge.rw_mintlaw_k63_whole_only_forgeries_gain.prog w K mg base "added" 1 (pdAdded) := ⟨_, _, _, g30, F30.kp, F30.bindsN fun _ _ _ _ _ _ us hl => match us, hl with | [_, _], _ => rfl, ok_added F30 B⟩
  have c_parting : Cal PySem.Challenge.rw_mintlaw_k63_whole_only_forgeries_gain.prog w K mg base "parting" 8 (pdPart P1 P2) := ⟨_, _, _, g31, F31.kp, F31.bindsN fun _ _ _ _ _ _ us hl => match us, hl with | [_], _ => rfl, ok_part F31 B c_solve c_price_system c_added⟩
  have c_way_of : Cal PySem.Challenge.rw_mintlaw_k63_whole_only_forgeries_gain.prog w K mg base "way_of" 1 (pdWayOf) := ⟨_, _, _, g32, F32.kp, F32.bindsN fun _ _ _ _ _ _ us hl => match us, hl with | [_, _], _ => rfl, ok_wayOf F32 B⟩
  have c_strike : Cal PySem.Challenge.rw_mintlaw_k63_whole_only_forgeries_gain.prog w K mg base "strike" 3 (pdStrike) := ⟨_, _, _, g33, F33.kp, F33.bindsN fun _ _ _ _ _ _ us hl => match us, hl with | [_, _, _], _ => rfl, ok_strike F33 B c_flow c_is_possible c_carry c_shown c_way_of⟩
  have c__law_mix : Cal PySem.Challenge.rw_mintlaw_k63_whole_only_forgeries_gain.prog w K mg base "_law_mix" 1 (pdMix) := ⟨_, _, _, g34, F34.kp, F34.bindsN fun _ _ _ _ _ _ us hl => match us, hl with | [_, _], _ => rfl, ok_mix F34 B⟩
  have c__law_numbers : Cal PySem.Challenge.rw_mintlaw_k63_whole_only_forgeries_gain.prog w K mg base "_law_numbers" 2 (pdNbs) := ⟨_, _, _, g35, F35.kp, F35.bindsN fun _ _ _ _ _ _ us hl => match us, hl with | [_, _], _ => rfl, ok_nbs F35 B c__law_mix⟩
  have c__law_draws : Cal PySem.Challenge.rw_mintlaw_k63_whole_only_forgeries_gain.prog w K mg base "_law_draws" 3 (pdDraws) := ⟨_, _, _, g36, F36.kp, F36.bindsN fun _ _ _ _ _ _ us hl => match us, hl with | [_, _], _ => rfl, ok_draws F36 B c__law_numbers⟩
  have c__law_take : Cal PySem.Challenge.rw_mintlaw_k63_whole_only_forgeries_gain.prog w K mg base "_law_take" 1 (pdTake) := ⟨_, _, _, g37, F37.kp, F37.bindsN fun _ _ _ _ _ _ us hl => match us, hl with | [_, _], _ => rfl, ok_take F37 B⟩
  have c__law_named : Cal PySem.Challenge.rw_mintlaw_k63_whole_only_forgeries_gain.prog w K mg base "_law_named" 2 (pdNamed) := ⟨_, _, _, g38, F38.kp, F38.bindsN fun _ _ _ _ _ _ us hl => match us, hl with | [_], _ => rfl, ok_named F38 B c__law_take⟩
  have c__law_stock : Cal PySem.Challenge.rw_mintlaw_k63_whole_only_forgeries_gain.prog w K mg base "_law_stock" 2 (pdStock) := ⟨_, _, _, g39, F39.kp, F39.bindsN fun _ _ _ _ _ _ us hl => match us, hl with | [_, _, _], _ => rfl, ok_stock F39 B c__law_take⟩
  have c__law_book : Cal PySem.Challenge.rw_mintlaw_k63_whole_only_forgeries_gain.prog w K mg base "_law_book" 3 (pdBook) := ⟨_, _, _, g40, F40.kp, F40.bindsN fun _ _ _ _ _ _ us hl => match us, hl with | [_, _], _ => rfl, ok_book F40 B c__law_take c__law_named c__law_stock⟩
  have c__law_event : Cal PySem.Challenge.rw_mintlaw_k63_whole_only_forgeries_gain.prog w K mg base "_law_event" 3 (pdEvent) := ⟨_, _, _, g41, F41.kp, F41.bindsN fun _ _ _ _ _ _ us hl => match us, hl with | [_, _, _, _, _, _], _ => rfl, ok_event F41 B c__law_take c__law_stock⟩
  have c__law_flow : Cal PySem.Challenge.rw_mintlaw_k63_whole_only_forgeries_gain.prog w K mg base "_law_flow" 1 (pdLFlow) := ⟨_, _, _, g42, F42.kp, F42.bindsN fun _ _ _ _ _ _ us hl => match us, hl with | [_, _, _], _ => rfl, ok_lflow F42 B⟩
  have c__law_done : Cal PySem.Challenge.rw_mintlaw_k63_whole_only_forgeries_gain.prog w K mg base "_law_done" 2 (pdDone) := ⟨_, _, _, g43, F43.kp, F43.bindsN fun _ _ _ _ _ _ us hl => match us, hl with | [_, _, _, _, _], _ => rfl, ok_done F43 B c__law_flow⟩
  have c__law_history : Cal PySem.Challenge.rw_mintlaw_k63_whole_only_forgeries_gain.prog w K mg base "_law_history" 4 (pdHist) := ⟨_, _, _, g44, F44.kp, F44.bindsN fun _ _ _ _ _ _ us hl => match us, hl with | [_, _, _], _ => rfl, ok_hist F44 B c__law_event c__law_done⟩
  have c__law_value : Cal PySem.Challenge.rw_mintlaw_k63_whole_only_forgeries_gain.prog w K mg base "_law_value" 1 (pdValue) := ⟨_, _, _, g45, F45.kp, F45.bindsN fun _ _ _ _ _ _ us hl => match us, hl with | [_, _], _ => rfl, ok_lval F45 B⟩
  have c__law_bounded : Cal PySem.Challenge.rw_mintlaw_k63_whole_only_forgeries_gain.prog w K mg base "_law_bounded" 2 (pdBnd) := ⟨_, _, _, g46, F46.kp, F46.bindsN fun _ _ _ _ _ _ us hl => match us, hl with | [_, _, _, _, _], _ => rfl, ok_bnd F46 B c__law_value⟩
  exact ok_law F47 B c__law_draws c__law_take c__law_book c__law_history c_parting c_audit c__law_value c_carry_out c__law_bounded c_strike
end Mw
open PySem PySem.W PySem.Calls PyProof.Rows
theorem PySem.Challenge.cw_mintlaw_k63_whole_only_forgeries_gain_holds : PySem.Challenge.rw_mintlaw_k63_whole_only_forgeries_gain.Holds := by
  w_on; o_law
  refine HandSHeadRun.head_any (r := Mw.lawRow) (q := view Mw.lawRow.prog [53]) (H := Mw.hk) (ob := Mw.ob) (M := 3000) (loose := Mw.loose) (d := HandSHeadRun.topDef Mw.lawRow.prog 53) (kwd := []) Mw.ob_eq (by kernel_rfl) (fun s => by kernel_rfl) Mw.run (by kernel_rfl) (by kernel_rfl) (by kernel_rfl) (by rfl)
    (by first | assumption | decide +kernel) (by decide +kernel) ⟨rfl, rfl, rfl, rfl, rfl, by decide +kernel⟩ ?hw ?hc
  case hw => w_witness2
  case hc =>
    refine LamX.walk_ofTsE (l := PySem.Challenge.rw_mintlaw_k63_whole_only_forgeries_gain) (n := 63) (k := 9) (x := "_law_script") (CX := fun _ => L2.CX0) rfl (by decide) (by kernel_rfl) ⟨rfl, by decide, by decide⟩ ?F (fun _ _ _ _ _ z => z)
    intro w mg fa h Y G hmg0
    obtain ⟨K, KX, c⟩ := Y
    have hmg : mg ("law" : PySem.Str) = some (.ref fa) := by
      have e : (HandSHeadRun.topDef Mw.lawRow.prog 53).name = ("law" : PySem.Str) := by kernel_rfl
      rw [← e]
      exact hmg0
    exact ⟨K, KX, Mw.law_at KX G hmg c⟩
