import PyProof.Rows.All
import Wide.All
import OpenK.AllK
import Wide.FinOn
import HandS.ForMost
import KE.KeyNested
import KE.KDictKeyed
import HandS.Exc
import HandS.TryOnly
import HandS.WordsExc
import HandS.CallSlots
import HandS.TupAny
import HandS.Style
import HandS.Zip
import HandS.ExcOwn
import KE.KDictDisplayH
import KE.DataCmp
import KE.SortData
import KE.SortKeyHeap
import PyProof.MinMaxWalk
import HandS.Deep
import HandS.SortKw
import KE.DataMinMax
import KE.DataAny
import HandS.IsInst
import HandS.Ends
import PySem.Challenge.RW_skewread_k85_papers_looked_at
set_option Elab.async false
set_option linter.all false
set_option maxRecDepth 100000
/-! A data layer over the hand layer: values as data, a frozen heap F, owned cells M. -/
namespace DL
open PySem PySem.Spec L2

/-- a value as data; ptr: an owned cell (or any object that is looked at by its address) -/
inductive D where
  | non | bl (b : Bool) | int (i : Int) | str (x : Str) | ptr (a : Addr) | ty (n : String)
  | tup (ds : List D) | lst (ds : List D) | dct (n : Bool) (kvs : List (D × D)) | obj (C : Addr) (fs : List (Str × D))

inductive Cell where
  | lst (ds : List D) | dct (n : Bool) (kvs : List (D × D)) | ins (C : Addr) (fs : List (Str × D))

abbrev Mem := Addr → Option Cell
def Mem.set (M : Mem) (a : Addr) (c : Cell) : Mem := fun b => if b = a then some c else M b
def Mem.del (M : Mem) (a : Addr) : Mem := fun b => if b = a then none else M b
theorem Mem.set_same {M : Mem} {a : Addr} {c : Cell} : M.set a c a = some c := if_pos rfl
theorem Mem.set_ne {M : Mem} {a b : Addr} {c : Cell} (h : b ≠ a) : M.set a c b = M b := if_neg h
theorem Mem.del_same {M : Mem} {a : Addr} : M.del a a = none := if_pos rfl
theorem Mem.del_ne {M : Mem} {a b : Addr} (h : b ≠ a) : M.del a b = M b := if_neg h
theorem Mem.set_set {M : Mem} {a : Addr} {c c' : Cell} : (M.set a c).set a c' = M.set a c' := by
  funext b; unfold Mem.set; split <;> rfl
theorem Mem.del_set {M : Mem} {a : Addr} {c : Cell} (h : M a = none) : (M.set a c).del a = M := by
  funext b
  show (if b = a then none else if b = a then some c else M b) = M b
  by_cases e : b = a
  · rw [if_pos e, e, h]
  · rw [if_neg e, if_neg e]

/-- where the text stands -/
structure Gx where
  P : Program
  w : World
  K : PySem.W.Frag
  mg : Str → Option Value
  base : Heap

/-- a dict whose keys are tuples, of any depth: key, the key's address, value -/
def hoN (G : Gx) (a : Addr) (es : List (NestedKey × Addr × V)) : HO := .ext fun h => ∃ xs : List (NestedKey × Addr × Value),
  Paired (fun (p : NestedKey × Addr × V) (q : NestedKey × Addr × Value) => p.1 = q.1 ∧ p.2.1 = q.2.1 ∧ RelV p.2.2 q.2.2) es xs ∧ es.length ≤ sizeLine ∧ (a == sysModules) = false ∧
  ∃ o es' ep, h.get? a = some o ∧ o.ExactDict ∧ o.data = .dict es' ep ∧ es'.toList = xs.map (entryOfKey (nestedKind G.P G.w)) ∧ (xs.map (·.1)).Nodup

mutual
/-- data as a key of a dict -/
def D.key : D → Option NestedKey
  | .non => some .none
  | .bl b => some (.num (if b then 1 else 0))
  | .int i => some (.num i)
  | .str x => some (.text x)
  | .tup ds => match D.keys ds with | some ks => some (.tup ks) | none => none
  | .ptr _ => none
  | .ty _ => none
  | .lst _ => none
  | .dct _ _ => none
  | .obj _ _ => none
def D.keys : List D → Option (List NestedKey)
  | [] => some []
  | d :: ds => match D.key d, D.keys ds with | some k, some ks => some (k :: ks) | _, _ => none
end

/-- an int or a text as a key -/
def kD : Key → D
  | .inl i => .int i
  | .inr x => .str x

mutual
/-- v stands for the data d, read in the frozen heap F -/
inductive Rf (G : Gx) (F : Hp) : V → D → Prop
  | non : Rf G F .non .non
  | bl (b : Bool) : Rf G F (.bl b) (.bl b)
  | int (i : Int) : Rf G F (.int i) (.int i)
  | str (x : Str) : Rf G F (.str x) (.str x)
  | ptr (a : Addr) : Rf G F (.ref a) (.ptr a)
  | ty (n : String) : Rf G F (.ty n) (.ty n)
  | tup {a : Addr} {xs : List V} {ds : List D} : SqT G.K F a xs → Rfs G F xs ds → Rf G F (.ref a) (.tup ds)
  | lst {a : Addr} {xs : List V} {ds : List D} : SqL G.K F a xs → Rfs G F xs ds → Rf G F (.ref a) (.lst ds)
  | dK {a : Addr} {o : Obj} {kvs : List (Key × V)} {ds : List (D × D)} : F a = some (.frz o (.dK kvs)) → RfK G F kvs ds → Rf G F (.ref a) (.dct false ds)
  | dN {a : Addr} {o : Obj} {es : List (NestedKey × Addr × V)} {ds : List (D × D)} : F a = some (.frz o (hoN G a es)) → RfN G F es ds → Rf G F (.ref a) (.dct true ds)
  | obj {a C dx : Addr} {fs : List (Str × V)} {ds : List (Str × D)} : F a = some (.ins C dx fs) → RfF G F fs ds → Rf G F (.ref a) (.obj C ds)
inductive Rfs (G : Gx) (F : Hp) : List V → List D → Prop
  | nil : Rfs G F [] []
  | cons {v : V} {d : D} {vs : List V} {ds : List D} : Rf G F v d → Rfs G F vs ds → Rfs G F (v :: vs) (d :: ds)
inductive RfK (G : Gx) (F : Hp) : List (Key × V) → List (D × D) → Prop
  | nil : RfK G F [] []
  | cons {k : Key} {v : V} {d : D} {vs : List (Key × V)} {ds : List (D × D)} : Rf G F v d → RfK G F vs ds → RfK G F ((k, v) :: vs) ((kD k, d) :: ds)
inductive RfN (G : Gx) (F : Hp) : List (NestedKey × Addr × V) → List (D × D) → Prop
  | nil : RfN G F [] []
  | cons {k : NestedKey} {b : Addr} {v : V} {kd d : D} {vs : List (NestedKey × Addr × V)} {ds : List (D × D)} : D.key kd = some k ∧ k.depth ≤ 8 → Rf G F (.ref b) kd → Rf G F v d → RfN G F vs ds → RfN G F ((k, b, v) :: vs) ((kd, d) :: ds)
inductive RfF (G : Gx) (F : Hp) : List (Str × V) → List (Str × D) → Prop
  | nil : RfF G F [] []
  | cons {k : Str} {v : V} {d : D} {vs : List (Str × V)} {ds : List (Str × D)} : Rf G F v d → RfF G F vs ds → RfF G F ((k, v) :: vs) ((k, d) :: ds)
end

theorem sqT_mono {K : PySem.W.Frag} {F F' : Hp} (e : Same F F') {a : Addr} {xs : List V} (h : SqT K F a xs) : SqT K F' a xs := by
  rcases h with (h | ⟨o, h⟩) | h
  · exact .inl (.inl (e _ _ h))
  · exact .inl (.inr ⟨o, e _ _ h⟩)
  · exact .inr h
theorem rd_mono {F F' : Hp} (e : Same F F') {a : Addr} {u : HO} (h : Rd F a u) : Rd F' a u := by
  rcases h with h | ⟨o, h⟩
  · exact .inl (e _ _ h)
  · exact .inr ⟨o, e _ _ h⟩
section
variable {G : Gx} {F F' : Hp}
mutual
theorem Rf.mono (e : Same F F') {v : V} {d : D} : Rf G F v d → Rf G F' v d
  | .non => .non
  | .bl b => .bl b
  | .int i => .int i
  | .str x => .str x
  | .ptr a => .ptr a
  | .ty n => .ty n
  | .tup h r => .tup (sqT_mono e h) (Rfs.mono e r)
  | .lst h r => .lst (e.seq h) (Rfs.mono e r)
  | .dK h r => .dK (e _ _ h) (RfK.mono e r)
  | .dN h r => .dN (e _ _ h) (RfN.mono e r)
  | .obj h r => .obj (e _ _ h) (RfF.mono e r)
theorem Rfs.mono (e : Same F F') {v : List V} {d : List D} : Rfs G F v d → Rfs G F' v d
  | .nil => .nil
  | .cons h r => .cons (Rf.mono e h) (Rfs.mono e r)
theorem RfK.mono (e : Same F F') {v : List (Key × V)} {d : List (D × D)} : RfK G F v d → RfK G F' v d
  | .nil => .nil
  | .cons h r => .cons (Rf.mono e h) (RfK.mono e r)
theorem RfN.mono (e : Same F F') {v : List (NestedKey × Addr × V)} {d : List (D × D)} : RfN G F v d → RfN G F' v d
  | .nil => .nil
  | .cons hk h0 h r => .cons hk (Rf.mono e h0) (Rf.mono e h) (RfN.mono e r)
theorem RfF.mono (e : Same F F') {v : List (Str × V)} {d : List (Str × D)} : RfF G F v d → RfF G F' v d
  | .nil => .nil
  | .cons h r => .cons (Rf.mono e h) (RfF.mono e r)
end
theorem Rfs.length {vs : List V} : ∀ {ds : List D}, Rfs G F vs ds → vs.length = ds.length := by
  induction vs with
  | nil => intro ds h; cases h; rfl
  | cons v vs ih => intro ds h; cases h with | cons _ r => simp [ih r]
theorem Rfs.get {vs : List V} : ∀ {ds : List D} {i : Nat} {d : D}, Rfs G F vs ds → ds[i]? = some d → ∃ v, vs[i]? = some v ∧ Rf G F v d := by
  induction vs with
  | nil => intro ds i d h e; cases h; simp at e
  | cons v vs ih =>
    intro ds i d h e
    cases h with
    | cons h r =>
      cases i with
      | zero => simp at e; subst e; exact ⟨_, rfl, h⟩
      | succ i => obtain ⟨v', e1, e2⟩ := ih (i := i) r (by simpa using e); exact ⟨v', by simpa using e1, e2⟩
theorem Rfs.getV {vs : List V} : ∀ {ds : List D} {i : Nat} {v : V}, Rfs G F vs ds → vs[i]? = some v → ∃ d, ds[i]? = some d ∧ Rf G F v d := by
  induction vs with
  | nil => intro ds i d h e; cases h; simp at e
  | cons v vs ih =>
    intro ds i d h e
    cases h with
    | cons h r =>
      cases i with
      | zero => simp at e; subst e; exact ⟨_, rfl, h⟩
      | succ i => obtain ⟨v', e1, e2⟩ := ih (i := i) r (by simpa using e); exact ⟨v', by simpa using e1, e2⟩
theorem Rfs.append {vs vs' : List V} {ds ds' : List D} (h : Rfs G F vs ds) (h' : Rfs G F vs' ds') : Rfs G F (vs ++ vs') (ds ++ ds') := by
  induction vs generalizing ds with
  | nil => cases h; exact h'
  | cons v vs ih => cases h with | cons h r => exact .cons h (ih r)
theorem Rfs.take {vs : List V} {ds : List D} (n : Nat) (h : Rfs G F vs ds) : Rfs G F (vs.take n) (ds.take n) := by
  induction n generalizing vs ds with
  | zero => exact .nil
  | succ n ih => cases h with | nil => exact .nil | cons h r => exact .cons h (ih r)
theorem Rfs.drop {vs : List V} {ds : List D} (n : Nat) (h : Rfs G F vs ds) : Rfs G F (vs.drop n) (ds.drop n) := by
  induction n generalizing vs ds with
  | zero => exact h
  | succ n ih => cases h with | nil => exact .nil | cons h r => exact ih r
theorem Rfs.set {vs : List V} {ds : List D} {v : V} {d : D} (j : Nat) (h : Rfs G F vs ds) (q : Rf G F v d) : Rfs G F (vs.set j v) (ds.set j d) := by
  induction j generalizing vs ds with
  | zero => cases h with | nil => exact .nil | cons h r => exact .cons q r
  | succ j ih => cases h with | nil => exact .nil | cons h r => exact .cons h (ih r)
theorem Rfs.dropLast {vs : List V} {ds : List D} (h : Rfs G F vs ds) : Rfs G F vs.dropLast ds.dropLast := by
  rw [List.dropLast_eq_take, List.dropLast_eq_take, h.length]; exact h.take _
theorem Rfs.reverse {vs : List V} {ds : List D} (h : Rfs G F vs ds) : Rfs G F vs.reverse ds.reverse := by
  induction vs generalizing ds with
  | nil => cases h; exact .nil
  | cons v vs ih => cases h with | cons h r => rw [List.reverse_cons, List.reverse_cons]; exact (ih r).append (.cons h .nil)
theorem Rfs.ints {ns : List Int} : Rfs G F (ns.map V.int) (ns.map D.int) := by
  induction ns with
  | nil => exact .nil
  | cons n ns ih => exact .cons (.int n) ih
theorem Rfs.of_ints {vs : List V} {ns : List Int} (h : Rfs G F vs (ns.map D.int)) : vs = ns.map V.int := by
  induction ns generalizing vs with
  | nil => cases h; rfl
  | cons n ns ih => cases h with | cons h r => cases h; rw [List.map_cons, ih r]
end

/-! ### the slots -/
abbrev Env' := List (Option D)
inductive RfO (G : Gx) (F : Hp) : Option V → Option D → Prop
  | no {v : Option V} : RfO G F v none
  | is {v : V} {d : D} : Rf G F v d → RfO G F (some v) (some d)
inductive RfE (G : Gx) (F : Hp) : St → Env' → Prop
  | nil : RfE G F [] []
  | cons {v : Option V} {d : Option D} {vs : St} {ds : Env'} : RfO G F v d → RfE G F vs ds → RfE G F (v :: vs) (d :: ds)
section
variable {G : Gx} {F F' : Hp}
theorem RfO.mono (e : Same F F') {v : Option V} {d : Option D} (h : RfO G F v d) : RfO G F' v d := by
  cases h with
  | no => exact .no
  | is h => exact .is (h.mono e)
theorem RfE.mono (e : Same F F') {σ : St} {ρ : Env'} (h : RfE G F σ ρ) : RfE G F' σ ρ := by
  induction h with
  | nil => exact .nil
  | cons h _ ih => exact .cons (h.mono e) ih
theorem RfE.get {σ : St} {ρ : Env'} (h : RfE G F σ ρ) : ∀ {i : Nat} {d : D}, ρ[i]? = some (some d) → ∃ v, σ[i]? = some (some v) ∧ Rf G F v d := by
  induction h with
  | nil => intro i d e; simp at e
  | cons h r ih =>
    intro i d e
    cases i with
    | zero => simp at e; subst e; cases h with | is h => exact ⟨_, rfl, h⟩
    | succ i => obtain ⟨v', e1, e2⟩ := ih (i := i) (by simpa using e); exact ⟨v', by simpa using e1, e2⟩
theorem RfE.set {σ : St} {ρ : Env'} (h : RfE G F σ ρ) (i : Nat) {v : Option V} {d : Option D} (q : RfO G F v d) : RfE G F (σ.set i v) (ρ.set i d) := by
  induction h generalizing i with
  | nil => exact .nil
  | cons h r ih => cases i with | zero => exact .cons q r | succ i => exact .cons h (ih i)
theorem RfE.length {σ : St} {ρ : Env'} (h : RfE G F σ ρ) : σ.length = ρ.length := by
  induction h with
  | nil => rfl
  | cons _ _ ih => simp [ih]
end

/-! ### the owned cells -/
def CellAt (G : Gx) (F H : Hp) (a : Addr) : Cell → Prop
  | .lst ds => ∃ xs, H a = some (.lst xs) ∧ Rfs G F xs ds
  | .dct false ds => ∃ kvs, H a = some (.dK kvs) ∧ RfK G F kvs ds
  | .dct true ds => ∃ es, H a = some (hoN G a es) ∧ RfN G F es ds
  | .ins C ds => ∃ dx fs, H a = some (.ins C dx fs) ∧ RfF G F fs ds
def RepM (G : Gx) (F H : Hp) (M : Mem) : Prop := ∀ a c, M a = some c → F a = none ∧ CellAt G F H a c
structure Ok (G : Gx) (F : Hp) (σ : St) (H : Hp) (ρ : Env') (M : Mem) : Prop where
  same : Same F H
  env : RfE G F σ ρ
  mem : RepM G F H M
section
variable {G : Gx} {F F' H H' : Hp} {σ : St} {ρ : Env'} {M : Mem}
theorem CellAt.mono (e : Same F F') {a : Addr} {c : Cell} (h : CellAt G F H a c) : CellAt G F' H a c := by
  cases c with
  | lst ds => obtain ⟨xs, h1, h2⟩ := h; exact ⟨xs, h1, h2.mono e⟩
  | dct n ds =>
    cases n with
    | false => obtain ⟨kvs, h1, h2⟩ := h; exact ⟨kvs, h1, h2.mono e⟩
    | true => obtain ⟨es, h1, h2⟩ := h; exact ⟨es, h1, h2.mono e⟩
  | ins C ds => obtain ⟨dx, fs, h1, h2⟩ := h; exact ⟨dx, fs, h1, h2.mono e⟩
theorem CellAt.there {a : Addr} {c : Cell} (h : CellAt G F H a c) : ∃ o, H a = some o := by
  cases c with
  | lst ds => obtain ⟨xs, h1, h2⟩ := h; exact ⟨_, h1⟩
  | dct n ds =>
    cases n with
    | false => obtain ⟨kvs, h1, h2⟩ := h; exact ⟨_, h1⟩
    | true => obtain ⟨es, h1, h2⟩ := h; exact ⟨_, h1⟩
  | ins C ds => obtain ⟨dx, fs, h1, h2⟩ := h; exact ⟨_, h1⟩
theorem CellAt.at {a : Addr} {c : Cell} (h : CellAt G F H a c) (e : H' a = H a) : CellAt G F H' a c := by
  cases c with
  | lst ds => obtain ⟨xs, h1, h2⟩ := h; exact ⟨xs, e.trans h1, h2⟩
  | dct n ds =>
    cases n with
    | false => obtain ⟨kvs, h1, h2⟩ := h; exact ⟨kvs, e.trans h1, h2⟩
    | true => obtain ⟨es, h1, h2⟩ := h; exact ⟨es, e.trans h1, h2⟩
  | ins C ds => obtain ⟨dx, fs, h1, h2⟩ := h; exact ⟨dx, fs, e.trans h1, h2⟩
theorem same_new {p : Addr} {o : HO} (h : H p = none) : Same H (upd H p o) := fun b x e => by
  rw [upd_ne (ne_of_none e h)]; exact e
theorem RepM.fresh (m : RepM G F H M) {p : Addr} (h : H p = none) : M p = none := by
  cases q : M p with
  | none => rfl
  | some c => obtain ⟨o, e⟩ := (m p c q).2.there; rw [h] at e; cases e
/-- a new object that nobody changes -/
theorem Ok.fro (k : Ok G F σ H ρ M) {p : Addr} {o : HO} (h : H p = none) : Ok G (upd F p o) σ (upd H p o) ρ M ∧ Same F (upd F p o) := by
  have fF : F p = none := k.same.free h
  have e : Same F (upd F p o) := same_new fF
  refine ⟨⟨fun b x q => ?_, k.env.mono e, fun a c q => ?_⟩, e⟩
  · by_cases hb : b = p
    · subst hb; rw [upd_same] at q ⊢; exact q
    · rw [upd_ne hb] at q ⊢; exact k.same b x q
  · obtain ⟨h1, h2⟩ := k.mem a c q
    have ne : a ≠ p := by obtain ⟨o, z⟩ := h2.there; exact ne_of_none z h
    exact ⟨by rw [upd_ne ne]; exact h1, (h2.mono e).at (upd_ne ne)⟩
/-- a new owned cell -/
theorem Ok.own (k : Ok G F σ H ρ M) {p : Addr} {o : HO} {c : Cell} (h : H p = none) (hc : CellAt G F (upd H p o) p c) : Ok G F σ (upd H p o) ρ (M.set p c) := by
  have fF : F p = none := k.same.free h
  refine ⟨k.same.trans (same_new h), k.env, fun a c' q => ?_⟩
  by_cases ha : a = p
  · subst ha; rw [Mem.set_same] at q; cases q; exact ⟨fF, hc⟩
  · rw [Mem.set_ne ha] at q; obtain ⟨h1, h2⟩ := k.mem a c' q; exact ⟨h1, h2.at (upd_ne ha)⟩
/-- an owned cell changed -/
theorem Ok.chg (k : Ok G F σ H ρ M) {p : Addr} {o : HO} {c c' : Cell} (h : M p = some c) (hc : CellAt G F (upd H p o) p c') : Ok G F σ (upd H p o) ρ (M.set p c') := by
  have fF : F p = none := (k.mem p c h).1
  refine ⟨fun b x q => ?_, k.env, fun a c2 q => ?_⟩
  · rw [upd_ne (ne_of_none q fF)]; exact k.same b x q
  · by_cases ha : a = p
    · subst ha; rw [Mem.set_same] at q; cases q; exact ⟨fF, hc⟩
    · rw [Mem.set_ne ha] at q; obtain ⟨h1, h2⟩ := k.mem a c2 q; exact ⟨h1, h2.at (upd_ne ha)⟩
/-- cells forgotten -/
theorem Ok.sub {M' : Mem} (k : Ok G F σ H ρ M) (h : ∀ a c, M' a = some c → M a = some c) : Ok G F σ H ρ M' := ⟨k.same, k.env, fun a c q => k.mem a c (h a c q)⟩
theorem Ok.slot (k : Ok G F σ H ρ M) (i : Nat) {v : V} {d : D} (r : Rf G F v d) : Ok G F (σ.set i (some v)) H (ρ.set i (some d)) M := ⟨k.same, k.env.set i (.is r), k.mem⟩
theorem Ok.unslot (k : Ok G F σ H ρ M) (i : Nat) {v : Option V} : Ok G F (σ.set i v) H (ρ.set i none) M := ⟨k.same, k.env.set i .no, k.mem⟩
/-- an owned list becomes frozen -/
theorem Ok.frz (k : Ok G F σ H ρ M) {p : Addr} {ds : List D} (h : M p = some (.lst ds)) : ∃ F', Same F F' ∧ Ok G F' σ H ρ (M.del p) ∧ Rf G F' (.ref p) (.lst ds) := by
  obtain ⟨fF, xs, hH, r⟩ := k.mem p _ h
  have e : Same F (upd F p (.lst xs)) := same_new fF
  refine ⟨upd F p (.lst xs), e, ⟨fun b x q => ?_, k.env.mono e, fun a c q => ?_⟩, .lst (.inl (.inl upd_same)) (r.mono e)⟩
  · by_cases hb : b = p
    · subst hb; rw [upd_same] at q; cases q; exact hH
    · rw [upd_ne hb] at q; exact k.same b x q
  · by_cases ha : a = p
    · subst ha; rw [Mem.del_same] at q; cases q
    · rw [Mem.del_ne ha] at q; obtain ⟨h1, h2⟩ := k.mem a c q; exact ⟨by rw [upd_ne ha]; exact h1, h2.mono e⟩
end
end DL
namespace DL
open PySem PySem.Spec L2

/-! ### exceptions as data -/
abbrev Exn := Value × List (Str × D)
def ExnAt (G : Gx) (F H : Hp) (cls : Value) (d : Option Addr) (x : Exn) : Prop :=
  cls = x.1 ∧ match d with
    | none => x.2 = []
    | some a => ∃ fs, H a = some (.xd fs) ∧ RfF G F fs x.2
abbrev QE := D → Mem → Prop
abbrev QX := Exn → Env' → Mem → Prop
/-- what the context takes of an exception -/
def ExL (G : Gx) (W : WX) (F : Hp) (Ex : QX) : Prop := ∀ cls d σ H x ρ M F', Same F F' → Ok G F' σ H ρ M → ExnAt G F' H cls d x → Ex x ρ M → W cls d σ H
theorem ExL.mono {G : Gx} {W : WX} {F F' : Hp} {Ex : QX} (h : ExL G W F Ex) (e : Same F F') : ExL G W F' Ex := fun cls d σ H x ρ M F2 e2 => h cls d σ H x ρ M F2 (e.trans e2)
theorem ExL.imp {G : Gx} {W : WX} {F : Hp} {Ex Ex' : QX} (h : ExL G W F Ex) (i : ∀ x ρ M, Ex' x ρ M → Ex x ρ M) : ExL G W F Ex' := fun cls d σ H x ρ M F2 e2 k a q => h cls d σ H x ρ M F2 e2 k a (i _ _ _ q)

/-! ### the readings -/
abbrev DW := Env' → Mem → QE → QX → Prop
abbrev DWT := Env' → Mem → (Bool → Mem → Prop) → QX → Prop
abbrev DWA := Env' → Mem → (List D → Mem → Prop) → QX → Prop
structure DK where
  nx : Env' → Mem → Prop
  rt : QE
  ex : QX
  bk : Env' → Mem → Prop := fun _ _ => False
  ct : Env' → Mem → Prop := fun _ _ => False
abbrev DWS := DK → Env' → Mem → Prop

def RdE (G : Gx) (W : WX) (t : TE) (w : DW) : Prop := ∀ (F : Hp) (σ : St) (H : Hp) (ρ : Env') (M : Mem) (Q : QE) (Ex : QX) (Qv : VK), Ok G F σ H ρ M → ExL G W F Ex →
  (∀ v H' d M' F', Same F F' → Ok G F' σ H' ρ M' → Rf G F' v d → Q d M' → Qv v H') → w ρ M Q Ex → t σ H Qv
def RdT (G : Gx) (W : WX) (t : TT) (w : DWT) : Prop := ∀ (F : Hp) (σ : St) (H : Hp) (ρ : Env') (M : Mem) (Q : Bool → Mem → Prop) (Ex : QX) (Qv : Bool → Hp → Prop), Ok G F σ H ρ M → ExL G W F Ex →
  (∀ b H' M' F', Same F F' → Ok G F' σ H' ρ M' → Q b M' → Qv b H') → w ρ M Q Ex → t σ H Qv
def RdA (G : Gx) (W : WX) (t : TA) (w : DWA) : Prop := ∀ (F : Hp) (σ : St) (H : Hp) (ρ : Env') (M : Mem) (Q : List D → Mem → Prop) (Ex : QX) (Qv : List V → Hp → Prop), Ok G F σ H ρ M → ExL G W F Ex →
  (∀ v H' d M' F', Same F F' → Ok G F' σ H' ρ M' → Rfs G F' v d → Q d M' → Qv v H') → w ρ M Q Ex → t σ H Qv
/-- the ends as data -/
structure EndsOk (G : Gx) (F : Hp) (D : Ends) (k : DK) : Prop where
  nx : ∀ σ' H' ρ' M' F', Same F F' → Ok G F' σ' H' ρ' M' → k.nx ρ' M' → D.nx σ' H'
  bk : ∀ σ' H' ρ' M' F', Same F F' → Ok G F' σ' H' ρ' M' → k.bk ρ' M' → D.bk σ' H'
  ct : ∀ σ' H' ρ' M' F', Same F F' → Ok G F' σ' H' ρ' M' → k.ct ρ' M' → D.ct σ' H'
  rt : ∀ v σ' H' ρ' d M' F', Same F F' → Ok G F' σ' H' ρ' M' → Rf G F' v d → k.rt d M' → D.rt v H'
theorem EndsOk.mono {G : Gx} {F F' : Hp} {D : Ends} {k : DK} (h : EndsOk G F D k) (e : Same F F') : EndsOk G F' D k :=
  ⟨fun a b c d f g => h.nx a b c d f (e.trans g), fun a b c d f g => h.bk a b c d f (e.trans g), fun a b c d f g => h.ct a b c d f (e.trans g), fun a b c d f g i j => h.rt a b c d f g i (e.trans j)⟩
def RdS (G : Gx) (W : WX) (t : TS) (w : DWS) : Prop := ∀ (F : Hp) (σ : St) (H : Hp) (ρ : Env') (M : Mem) (k : DK) (D : Ends), Ok G F σ H ρ M → ExL G W F k.ex → EndsOk G F D k → w k ρ M → t D σ H

structure DE (G : Gx) (X : Cx) (W : WX) (e : Expr) (w : DW) : Prop where
  ex : ∃ t, PE X e t ∧ RdE G W t w
structure DT (G : Gx) (X : Cx) (W : WX) (e : Expr) (w : DWT) : Prop where
  ex : ∃ t, PT X e t ∧ RdT G W t w
structure DWh (G : Gx) (X : Cx) (W : WX) (e : Expr) (w : DWT) : Prop where
  ex : ∃ t, PW X e t ∧ RdT G W t w
structure DA (G : Gx) (X : Cx) (W : WX) (es : List Expr) (w : DWA) : Prop where
  ex : ∃ t, PA X es t ∧ RdA G W t w
structure DS (G : Gx) (X : Cx) (W : WX) (st : Stmt) (w : DWS) : Prop where
  ex : ∃ t, PS X st t ∧ RdS G W t w
structure DSs (G : Gx) (X : Cx) (W : WX) (sts : List Stmt) (w : DWS) : Prop where
  ex : ∃ t, PSs X sts t ∧ RdS G W t w

/-- the context of a body -/
structure Bd (G : Gx) (k : Nat) (X : Cx) (W : WX) : Prop where
  eP : X.prog = G.P
  ew : X.w = G.w
  eK : X.K = G.K
  emg : X.mg = G.mg
  eb : X.base = G.base
  nd : X.N.Nodup
  rm : Room k X.A
  calm : X.calm = true
  tk : Takes X W
  po : PassesOwn (model X.prog X.w) X.A X.env X.xe

section
variable {G : Gx} {X : Cx} {W : WX} {a b e : Expr} {es : List Expr} {pos : Pos} {wa wb wc : DW} {j : Nat}

/-! ### names, constants -/
def wVar (i : Nat) : DW := fun ρ M Q _ => match ρ[i]? with
  | some (some d) => Q d M
  | _ => False
/-- a name of the scope -/
structure Sl (X : Cx) (i : Nat) (x : Str) : Prop where
  hN : X.N[i]? = some x
  hv : Vis X.env.scope x
  hd : (x == ("__debug__" : Str)) = false
  hcd : (x == ("__classdict__" : Str)) = false
theorem de_var {i : Nat} {x : Str} (s : Sl X i x) : DE G X W (.Name x pos) (wVar i) := by
  refine ⟨tVar i, pe_var s.hN s.hv s.hd s.hcd, fun F σ H ρ M Q Ex Qv k _ c h => ?_⟩
  unfold wVar at h
  split at h
  · next d e =>
    obtain ⟨v, e1, r⟩ := k.env.get e
    exact ⟨v, e1, c v H d M F (Same.refl F) k r h⟩
  · exact h.elim
/-- a name whose owned list becomes frozen -/
def wVarF (i : Nat) : DW := fun ρ M Q _ => match ρ[i]? with
  | some (some (.ptr p)) => match M p with
    | some (.lst ds) => Q (.lst ds) (M.del p)
    | _ => False
  | _ => False
theorem de_varF {i : Nat} {x : Str} (s : Sl X i x) : DE G X W (.Name x pos) (wVarF i) := by
  refine ⟨tVar i, pe_var s.hN s.hv s.hd s.hcd, fun F σ H ρ M Q Ex Qv k _ c h => ?_⟩
  unfold wVarF at h
  split at h
  · next p e =>
    split at h
    · next ds em =>
      obtain ⟨v, e1, r⟩ := k.env.get e
      cases r
      obtain ⟨F', e2, k2, r2⟩ := k.frz em
      exact ⟨_, e1, c _ H _ _ F' e2 k2 r2 h⟩
    · exact h.elim
  · exact h.elim
def wC (d : D) : DW := fun _ M Q _ => Q d M
theorem rdC {d : D} {v : V} (h : ∀ F, Rf G F v d) : RdE G W (tC v) (wC d) := fun F σ H ρ M Q Ex Qv k _ c q => c v H d M F (Same.refl F) k (h F) q
theorem de_int {i : Int} {j : Nat} : DE G X W (.Constant (.int i) j pos) (wC (.int i)) := ⟨_, pe_int, rdC fun F => .int i⟩
theorem de_bl {i : Bool} {j : Nat} : DE G X W (.Constant (.bool i) j pos) (wC (.bl i)) := ⟨_, pe_bl, rdC fun F => .bl i⟩
theorem de_non {j : Nat} : DE G X W (.Constant .none j pos) (wC .non) := ⟨_, pe_non, rdC fun F => .non⟩
theorem de_str {i : Str} {j : Nat} : DE G X W (.Constant (.str i) j pos) (wC (.str i)) := ⟨_, pe_str, rdC fun F => .str i⟩
/-- a name of the module -/
structure Gn (G : Gx) (X : Cx) (x : Str) (u : Value) : Prop where
  hg : Gl X x
  hm : G.mg x = some u
  hd : (x == ("__debug__" : Str)) = false
theorem de_glob {k : Nat} (B : Bd G k X W) {x : Str} {u : Value} {v : V} {d : D} (g : Gn G X x u) (r : RelV v u) (h : ∀ F, Rf G F v d) : DE G X W (.Name x pos) (wC d) :=
  ⟨_, pe_glob g.hg (by rw [B.emg]; exact g.hm) r g.hd, rdC h⟩
/-- a builtin's name -/
structure Bn (G : Gx) (X : Cx) (x : Str) (u : Value) : Prop where
  hg : Gl X x
  hm : G.mg x = none
  hv : bootBuiltins x = some u
  hn : x ≠ "__name__"
  hd : (x == ("__debug__" : Str)) = false

/-! ### two operands -/
abbrev R2D := D → D → Mem → QE → Prop
def OpD (G : Gx) (X : Cx) (W : WX) (f : Value → Value → Sem Value) (r : R2D) : Prop := ∃ rv : R2, OpR X f rv ∧ ∀ (F : Hp) (σ : St) (H : Hp) (ρ : Env') (M : Mem) (x y : V) (dx dy : D) (Q : QE) (Qv : VK), Ok G F σ H ρ M → Rf G F x dx → Rf G F y dy →
  (∀ v H' d M' F', Same F F' → Ok G F' σ H' ρ M' → Rf G F' v d → Q d M' → Qv v H') → r dx dy M Q → rv x y H Qv
def wBin (r : R2D) (wa wb : DW) : DW := fun ρ M Q Ex => wa ρ M (fun x M1 => wb ρ M1 (fun y M2 => r x y M2 Q) Ex) Ex
theorem rdBin {ta tb : TE} {rv : R2} {r : R2D} (ha : RdE G W ta wa) (hb : RdE G W tb wb) (hr : ∀ (F : Hp) (σ : St) (H : Hp) (ρ : Env') (M : Mem) (x y : V) (dx dy : D) (Q : QE) (Qv : VK), Ok G F σ H ρ M → Rf G F x dx → Rf G F y dy →
    (∀ v H' d M' F', Same F F' → Ok G F' σ H' ρ M' → Rf G F' v d → Q d M' → Qv v H') → r dx dy M Q → rv x y H Qv) : RdE G W (tOp rv ta tb) (wBin r wa wb) :=
  fun F σ H ρ M Q Ex Qv k l c h => ha F σ H ρ M _ Ex _ k l (fun x H1 d1 M1 F1 e1 k1 r1 h1 => hb F1 σ H1 ρ M1 _ Ex _ k1 (l.mono e1) (fun y H2 d2 M2 F2 e2 k2 r2 h2 =>
    hr F2 σ H2 ρ M2 x y d1 d2 Q Qv k2 (r1.mono e2) r2 (fun v H' d M' F' e3 => c v H' d M' F' ((e1.trans e2).trans e3)) h2) h1) h
theorem de_bin {op : Operator} {r : R2D} (ho : OpD G X W (binaryOp op) r) (ha : DE G X W a wa) (hb : DE G X W b wb) : DE G X W (.BinOp a op b pos) (wBin r wa wb) := by
  obtain ⟨rv, h1, h2⟩ := ho
  obtain ⟨ta, p1, q1⟩ := ha.ex
  obtain ⟨tb, p2, q2⟩ := hb.ex
  exact ⟨_, pe_op h1 p1 p2, rdBin q1 q2 h2⟩
theorem de_cmp {op : CmpOp} {r : R2D} (ho : OpD G X W (compareOp op) r) (ha : DE G X W a wa) (hb : DE G X W b wb) (hm : behindInMarks op b = false) : DE G X W (.Compare a [op] [b] pos) (wBin r wa wb) := by
  obtain ⟨rv, h1, h2⟩ := ho
  obtain ⟨ta, p1, q1⟩ := ha.ex
  obtain ⟨tb, p2, q2⟩ := hb.ex
  exact ⟨_, pe_cmpR h1 p1 p2 hm, rdBin q1 q2 h2⟩
/-- a result that leaves everything -/
theorem OpD.pure {f : Value → Value → Sem Value} {r : R2D} {rv : R2} (h1 : OpR X f rv)
    (h2 : ∀ (F : Hp) (σ : St) (H : Hp) (ρ : Env') (M : Mem) (x y : V) (dx dy : D) (Q : QE) (Qv : VK), Ok G F σ H ρ M → Rf G F x dx → Rf G F y dy →
      (∀ v H' d M' F', Same F F' → Ok G F' σ H' ρ M' → Rf G F' v d → Q d M' → Qv v H') → r dx dy M Q → rv x y H Qv) : OpD G X W f r := ⟨rv, h1, h2⟩

/-- what a list is: frozen or owned -/
def vw (M : Mem) : D → Option (List D)
  | .lst ds => some ds
  | .ptr p => match M p with | some (.lst ds) => some ds | _ => none
  | _ => none
theorem vw_sq {F H : Hp} {σ : St} {ρ : Env'} {M : Mem} {x : V} {d : D} {ds : List D} (k : Ok G F σ H ρ M) (r : Rf G F x d) (h : vw M d = some ds) : ∃ a xs, x = .ref a ∧ SqL G.K H a xs ∧ Rfs G F xs ds := by
  cases d with
  | lst ds' =>
    cases h
    cases r with
    | lst hs hr => exact ⟨_, _, rfl, k.same.seq hs, hr⟩
  | ptr p =>
    simp only [vw] at h
    split at h
    · next ds' e =>
      cases h
      obtain ⟨_, xs, h1, h2⟩ := k.mem p _ e
      cases r
      exact ⟨p, xs, rfl, SqL.of h1, h2⟩
    · cases h
  | _ => cases h
theorem tup_sq {F H : Hp} {σ : St} {ρ : Env'} {M : Mem} {x : V} {ds : List D} (k : Ok G F σ H ρ M) (r : Rf G F x (.tup ds)) : ∃ a xs, x = .ref a ∧ SqT G.K H a xs ∧ Rfs G F xs ds := by
  cases r with
  | tup h1 h2 => exact ⟨_, _, rfl, sqT_mono k.same h1, h2⟩
/-- a new list, a new tuple as frozen data -/
theorem Ok.newL {F H : Hp} {σ : St} {ρ : Env'} {M : Mem} {xs : List V} {ds : List D} {p : Addr} (k : Ok G F σ H ρ M) (r : Rfs G F xs ds) (h : H p = none) : ∃ F', Same F F' ∧ Ok G F' σ (upd H p (.lst xs)) ρ M ∧ Rf G F' (.ref p) (.lst ds) := by
  obtain ⟨k', e⟩ := k.fro (o := .lst xs) h
  exact ⟨_, e, k', .lst (.inl (.inl upd_same)) (r.mono e)⟩
theorem Ok.newT {F H : Hp} {σ : St} {ρ : Env'} {M : Mem} {xs : List V} {ds : List D} {p : Addr} (k : Ok G F σ H ρ M) (r : Rfs G F xs ds) (h : H p = none) : ∃ F', Same F F' ∧ Ok G F' σ (upd H p (.tup xs)) ρ M ∧ Rf G F' (.ref p) (.tup ds) := by
  obtain ⟨k', e⟩ := k.fro (o := .tup xs) h
  exact ⟨_, e, k', .tup (.inl (.inl upd_same)) (r.mono e)⟩
/-- a new owned list -/
theorem Ok.ownL {F H : Hp} {σ : St} {ρ : Env'} {M : Mem} {xs : List V} {ds : List D} {p : Addr} (k : Ok G F σ H ρ M) (r : Rfs G F xs ds) (h : H p = none) : Ok G F σ (upd H p (.lst xs)) ρ (M.set p (.lst ds)) :=
  k.own h ⟨xs, upd_same, r⟩

/-! ### arithmetic -/
def rInt (g : Int → Int → D) : R2D := fun x y M Q => match x, y with
  | .int i, .int j => Q (g i j) M
  | _, _ => False
theorem opInt {f : Value → Value → Sem Value} {g : Int → Int → V} {g' : Int → Int → D} (h : OpR X f (rI0 g)) (hg : ∀ F i j, Rf G F (g i j) (g' i j)) : OpD G X W f (rInt g') := by
  refine ⟨_, h, fun F σ H ρ M x y dx dy Q Qv k rx ry c h => ?_⟩
  unfold rInt at h
  split at h
  · next i j => cases rx; cases ry; exact ⟨i, j, rfl, rfl, c _ H _ M F (Same.refl F) k (hg F i j) h⟩
  · exact h.elim
def rIntC (C : Int → Int → Prop) (g : Int → Int → D) : R2D := fun x y M Q => match x, y with
  | .int i, .int j => C i j ∧ Q (g i j) M
  | _, _ => False
theorem opIntC {f : Value → Value → Sem Value} {C : Int → Int → Prop} {g : Int → Int → V} {g' : Int → Int → D} (h : OpR X f (rI C g)) (hg : ∀ F i j, Rf G F (g i j) (g' i j)) : OpD G X W f (rIntC C g') := by
  refine ⟨_, h, fun F σ H ρ M x y dx dy Q Qv k rx ry c h => ?_⟩
  unfold rIntC at h
  split at h
  · next i j => cases rx; cases ry; exact ⟨i, j, rfl, rfl, h.1, c _ H _ M F (Same.refl F) k (hg F i j) h.2⟩
  · exact h.elim
abbrev rSubD : R2D := rInt fun i j => .int (i - j)
abbrev rModD : R2D := rIntC (fun _ j => 0 < j) fun i j => .int (i % j)
abbrev rFdvD : R2D := rIntC CDiv fun i j => .int (i / j)
abbrev rMulD : R2D := rIntC CMul fun i j => .int (i * j)
abbrev rPowD : R2D := rIntC CPow fun i j => .int (i ^ j.toNat)
theorem dop_sub : OpD G X W (binaryOp .Sub) rSubD := opInt op_sub fun _ _ _ => .int _
theorem dop_mod : OpD G X W (binaryOp .Mod) rModD := opIntC op_mod fun _ _ _ => .int _
theorem dop_fdv : OpD G X W (binaryOp .FloorDiv) rFdvD := opIntC op_fdiv fun _ _ _ => .int _
theorem dop_mul : OpD G X W (binaryOp .Mult) rMulD := opIntC op_mul fun _ _ _ => .int _
theorem dop_pow : OpD G X W (binaryOp .Pow) rPowD := opIntC op_pow fun _ _ _ => .int _
abbrev rLtI : R2D := rInt fun i j => .bl (decide (i < j))
abbrev rLeI : R2D := rInt fun i j => .bl (decide (i ≤ j))
abbrev rGtI : R2D := rInt fun i j => .bl (decide (j < i))
abbrev rGeI : R2D := rInt fun i j => .bl (decide (j ≤ i))
theorem dop_ltI : OpD G X W (compareOp .Lt) rLtI := opInt op_lt fun _ _ _ => .bl _
theorem dop_leI : OpD G X W (compareOp .LtE) rLeI := opInt op_le fun _ _ _ => .bl _
theorem dop_gtI : OpD G X W (compareOp .Gt) rGtI := opInt op_gt fun _ _ _ => .bl _
theorem dop_geI : OpD G X W (compareOp .GtE) rGeI := opInt op_ge fun _ _ _ => .bl _

/-- list + list, any lists that are read -/
def rCatL (K : PySem.W.Frag) : R2 := fun x y H Q => ∃ l b xs zs, x = .ref l ∧ y = .ref b ∧ SqL K H l xs ∧ SqL K H b zs ∧ xs.length + zs.length ≤ sizeLine ∧ ∀ p, H p = none → Q (.ref p) (upd H p (.lst (xs ++ zs)))
theorem op_catL : OpR X (binaryOp .Add) (rCatL X.K) := by
  intro pins s σ H x y v u Q I rx ry h
  obtain ⟨l, b, xs, zs, rfl, rfl, hl, hb, hz, q⟩ := h
  cases rx
  cases ry
  obtain ⟨its, r, p1, z1⟩ := I.list hl
  obtain ⟨its2, r2, p2, z2⟩ := I.list hb
  obtain ⟨⟨cls, dd, data, sl⟩, ho, hc, n, hd⟩ := p1.isList
  obtain ⟨⟨cls2, dd2, data2, sl2⟩, ho2, hc2, n2, hd2⟩ := p2.isList
  simp only at hc hd hc2 hd2
  subst hc hd hc2 hd2
  have e : its.toArray ++ its2.toArray = (its ++ its2).toArray := by simp
  have hlen : its.toArray.size + its2.toArray.size ≤ sizeLine := by
    rw [List.size_toArray, List.size_toArray, ← r.length, ← r2.length]; exact hz
  refine concat_meets ⟨_, ho, rfl⟩ ⟨_, ho2, rfl⟩ noFill_list_add seq_list_add PySem.F.slot_list_add PySem.F.entry_list_add (PySem.F.args_list_add_2 _ _) (PyProof.Rows.list_addW l b its.toArray its2.toArray n n2 dd dd2 sl sl2 hlen) ⟨ho, ho2, ?_⟩
  rw [e]
  exact ⟨.ref _, _, I.lnew (t' := s.toks) (r.append r2) (by rw [List.length_append]; omega), rfl, q _ I.fresh⟩

/-- a + b: ints, texts, tuples, lists -/
def rAddD : R2D := fun x y M Q => match x, y with
  | .int i, .int j => Q (.int (i + j)) M
  | .str i, .str j => i.length + j.length ≤ sizeLine ∧ Q (.str (i ++ j)) M
  | .tup xs, .tup ys => xs.length + ys.length ≤ sizeLine ∧ Q (.tup (xs ++ ys)) M
  | x, y => match vw M x, vw M y with
    | some xs, some ys => xs.length + ys.length ≤ sizeLine ∧ Q (.lst (xs ++ ys)) M
    | _, _ => False
theorem dop_add {k : Nat} (B : Bd G k X W) : OpD G X W (binaryOp .Add) rAddD := by
  refine ⟨_, ((op_add (X := X)).or op_add_str).or ((op_catA (X := X)).or op_catL), fun F σ H ρ M x y dx dy Q Qv k rx ry c h => ?_⟩
  unfold rAddD at h
  split at h
  · next i j => cases rx; cases ry; exact .inl (.inl ⟨i, j, rfl, rfl, c _ H _ M F (Same.refl F) k (.int _) h⟩)
  · next i j => cases rx; cases ry; exact .inl (.inr ⟨i, j, rfl, rfl, h.1, c _ H _ M F (Same.refl F) k (.str _) h.2⟩)
  · next xs ys =>
    obtain ⟨a, vs, rfl, h1, h2⟩ := tup_sq k rx
    obtain ⟨b, ws, rfl, h3, h4⟩ := tup_sq k ry
    obtain ⟨hz, h⟩ := h
    rw [← B.eK] at h1 h3
    have fin : Rfs G F (vs ++ ws) (xs ++ ys) := h2.append h4
    refine .inr (.inl ⟨a, b, vs, ws, rfl, rfl, h1, h3, by rw [h2.length, h4.length]; exact hz, fun e => ?_, fun _ e => ?_, fun _ _ p hp => ?_⟩)
    · subst e; cases h2; exact c _ H _ M F (Same.refl F) k ry h
    · subst e; cases h4; rw [List.append_nil] at h; exact c _ H _ M F (Same.refl F) k rx h
    · obtain ⟨F', e, k', r'⟩ := k.newT fin hp
      exact c _ _ _ M F' e k' r' h
  · split at h
    · next xs ys e1 e2 =>
      obtain ⟨a, vs, rfl, h1, h2⟩ := vw_sq k rx e1
      obtain ⟨b, ws, rfl, h3, h4⟩ := vw_sq k ry e2
      rw [← B.eK] at h1 h3
      refine .inr (.inr ⟨a, b, vs, ws, rfl, rfl, h1, h3, by rw [h2.length, h4.length]; exact h.1, fun p hp => ?_⟩)
      obtain ⟨F', e, k', r'⟩ := k.newL (h2.append h4) hp
      exact c _ _ _ M F' e k' r' h.2
    · exact h.elim
end
end DL
namespace DL
open PySem PySem.Spec L2
section
variable {G : Gx} {X : Cx} {W : WX} {a b c e o : Expr} {es rest : List Expr} {pos p2 : Pos} {wa wb wc we wo : DW} {wA wB : DWT} {j : Nat}

/-! ### tests -/
def wTB (w : DW) : DWT := fun ρ M Q Ex => w ρ M (fun d M' => match d with | .bl b => Q b M' | _ => False) Ex
theorem rdTB {t : TE} (h : RdE G W t we) : RdT G W (tB t) (wTB we) := fun F σ H ρ M Q Ex Qv k l c q =>
  h F σ H ρ M _ Ex _ k l (fun v H' d M' F' e k' r q' => by
    try dsimp only at q'
    split at q'
    · next b => cases r; exact ⟨b, rfl, c b H' M' F' e k' q'⟩
    · exact q'.elim) q
theorem dt_val (h : DE G X W e we) (he : ∀ whole, isTrue e X.env whole = (do let v ← whole; standAt e.pos; holding [v] (truthy v)) := by intro _; rfl) : DT G X W e (wTB we) := by
  obtain ⟨t, p, q⟩ := h.ex
  exact ⟨_, pt_val p he, rdTB q⟩
theorem dt_cmp {op : CmpOp} {r : R2D} (ho : OpD G X W (compareOp op) r) (ha : DE G X W a wa) (hb : DE G X W b wb) (hm : behindInMarks op b = false) : DT G X W (.Compare a [op] [b] pos) (wTB (wBin r wa wb)) := by
  obtain ⟨rv, h1, h2⟩ := ho
  obtain ⟨ta, p1, q1⟩ := ha.ex
  obtain ⟨tb, p2, q2⟩ := hb.ex
  exact ⟨_, pt_cmpR h1 p1 p2 hm, rdTB (rdBin q1 q2 h2)⟩
def wNot (w : DWT) : DWT := fun ρ M Q Ex => w ρ M (fun b M' => Q (!b) M') Ex
theorem dt_not (h : DT G X W a wA) : DT G X W (.UnaryOp .Not a pos) (wNot wA) := by
  obtain ⟨t, p, q⟩ := h.ex
  exact ⟨_, pt_not p, fun F σ H ρ M Q Ex Qv k l c q' => q F σ H ρ M _ Ex _ k l (fun b H' M' F' e k' h' => c (!b) H' M' F' e k' h') q'⟩
def wAnd (w w' : DWT) : DWT := fun ρ M Q Ex => w ρ M (fun b M' => if b = true then w' ρ M' Q Ex else Q false M') Ex
def wOr (w w' : DWT) : DWT := fun ρ M Q Ex => w ρ M (fun b M' => if b = true then Q true M' else w' ρ M' Q Ex) Ex
theorem dw_and1 (h : DT G X W a wA) : DWh G X W (.BoolOp .And [a] pos) wA := by
  obtain ⟨t, p, q⟩ := h.ex
  exact ⟨_, pw_and1 p, q⟩
theorem dw_or1 (h : DT G X W a wA) : DWh G X W (.BoolOp .Or [a] pos) wA := by
  obtain ⟨t, p, q⟩ := h.ex
  exact ⟨_, pw_or1 p, q⟩
theorem dw_and (h : DT G X W a wA) (h' : DWh G X W (.BoolOp .And (b :: rest) pos) wB) : DWh G X W (.BoolOp .And (a :: b :: rest) pos) (wAnd wA wB) := by
  obtain ⟨t, p, q⟩ := h.ex
  obtain ⟨t', p', q'⟩ := h'.ex
  refine ⟨_, pw_and p p', fun F σ H ρ M Q Ex Qv k l c h0 => q F σ H ρ M _ Ex _ k l (fun b H' M' F' e k' h1 => ?_) h0⟩
  cases b with
  | true => exact q' F' σ H' ρ M' Q Ex Qv k' (l.mono e) (fun b2 H2 M2 F2 e2 => c b2 H2 M2 F2 (e.trans e2)) h1
  | false => exact c false H' M' F' e k' h1
theorem dw_or (h : DT G X W a wA) (h' : DWh G X W (.BoolOp .Or (b :: rest) pos) wB) : DWh G X W (.BoolOp .Or (a :: b :: rest) pos) (wOr wA wB) := by
  obtain ⟨t, p, q⟩ := h.ex
  obtain ⟨t', p', q'⟩ := h'.ex
  refine ⟨_, pw_or p p', fun F σ H ρ M Q Ex Qv k l c h0 => q F σ H ρ M _ Ex _ k l (fun b H' M' F' e k' h1 => ?_) h0⟩
  cases b with
  | false => exact q' F' σ H' ρ M' Q Ex Qv k' (l.mono e) (fun b2 H2 M2 F2 e2 => c b2 H2 M2 F2 (e.trans e2)) h1
  | true => exact c true H' M' F' e k' h1
theorem dt_bool (h : DWh G X W e wA) : DT G X W e wA := by
  obtain ⟨t, p, q⟩ := h.ex
  exact ⟨_, p.pt, q⟩
/-! .. as values -/
def wAndV (wa wb : DW) : DW := fun ρ M Q Ex => wa ρ M (fun x M' => match x with | .bl c => (if c = true then wb ρ M' Q Ex else Q (.bl false) M') | _ => False) Ex
def wOrV (wa wb : DW) : DW := fun ρ M Q Ex => wa ρ M (fun x M' => match x with | .bl c => (if c = true then Q (.bl true) M' else wb ρ M' Q Ex) | _ => False) Ex
theorem de_one {op : BoolOp} (h : DE G X W a wa) : DE G X W (.BoolOp op [a] pos) wa := by
  obtain ⟨t, p, q⟩ := h.ex
  exact ⟨_, pe_one p, q⟩
theorem de_and (h : DE G X W a wa) (h' : DE G X W (.BoolOp .And (b :: rest) pos) wb) : DE G X W (.BoolOp .And (a :: b :: rest) pos) (wAndV wa wb) := by
  obtain ⟨t, p, q⟩ := h.ex
  obtain ⟨t', p', q'⟩ := h'.ex
  refine ⟨_, pe_and p p', fun F σ H ρ M Q Ex Qv k l c h0 => q F σ H ρ M _ Ex _ k l (fun v H' d M' F' e k' r h1 => ?_) h0⟩
  try dsimp only at h1
  split at h1
  · next b =>
    cases r
    refine ⟨b, rfl, ?_⟩
    cases b with
    | true => exact q' F' σ H' ρ M' Q Ex Qv k' (l.mono e) (fun v2 H2 d2 M2 F2 e2 => c v2 H2 d2 M2 F2 (e.trans e2)) h1
    | false => exact c _ H' _ M' F' e k' (.bl _) h1
  · exact h1.elim
theorem de_or (h : DE G X W a wa) (h' : DE G X W (.BoolOp .Or (b :: rest) pos) wb) : DE G X W (.BoolOp .Or (a :: b :: rest) pos) (wOrV wa wb) := by
  obtain ⟨t, p, q⟩ := h.ex
  obtain ⟨t', p', q'⟩ := h'.ex
  refine ⟨_, pe_or p p', fun F σ H ρ M Q Ex Qv k l c h0 => q F σ H ρ M _ Ex _ k l (fun v H' d M' F' e k' r h1 => ?_) h0⟩
  try dsimp only at h1
  split at h1
  · next b =>
    cases r
    refine ⟨b, rfl, ?_⟩
    cases b with
    | false => exact q' F' σ H' ρ M' Q Ex Qv k' (l.mono e) (fun v2 H2 d2 M2 F2 e2 => c v2 H2 d2 M2 F2 (e.trans e2)) h1
    | true => exact c _ H' _ M' F' e k' (.bl _) h1
  · exact h1.elim
def wNotV (wa : DW) : DW := fun ρ M Q Ex => wa ρ M (fun x M' => match x with | .bl c => Q (.bl (!c)) M' | _ => False) Ex
theorem de_not (h : DE G X W a wa) : DE G X W (.UnaryOp .Not a pos) (wNotV wa) := by
  obtain ⟨t, p, q⟩ := h.ex
  refine ⟨_, pe_not p, fun F σ H ρ M Q Ex Qv k l c h0 => q F σ H ρ M _ Ex _ k l (fun v H' d M' F' e k' r h1 => ?_) h0⟩
  try dsimp only at h1
  split at h1
  · next b => cases r; exact ⟨b, rfl, c _ H' _ M' F' e k' (.bl _) h1⟩
  · exact h1.elim
def wIfE (wt : DWT) (wa wb : DW) : DW := fun ρ M Q Ex => wt ρ M (fun b M' => if b = true then wa ρ M' Q Ex else wb ρ M' Q Ex) Ex
theorem de_if (h : DT G X W c wA) (ha : DE G X W a wa) (hb : DE G X W b wb) : DE G X W (.IfExp c a b pos) (wIfE wA wa wb) := by
  obtain ⟨t, p, q⟩ := h.ex
  obtain ⟨t1, p1, q1⟩ := ha.ex
  obtain ⟨t2, p2, q2⟩ := hb.ex
  refine ⟨_, pe_ifExp p p1 p2, fun F σ H ρ M Q Ex Qv k l c h0 => q F σ H ρ M _ Ex _ k l (fun b H' M' F' e k' h1 => ?_) h0⟩
  cases b with
  | true => exact q1 F' σ H' ρ M' Q Ex Qv k' (l.mono e) (fun v2 H2 d2 M2 F2 e2 => c v2 H2 d2 M2 F2 (e.trans e2)) h1
  | false => exact q2 F' σ H' ρ M' Q Ex Qv k' (l.mono e) (fun v2 H2 d2 M2 F2 e2 => c v2 H2 d2 M2 F2 (e.trans e2)) h1
/-- is None -/
def isNon : D → Bool
  | .non => true
  | _ => false
theorem Rf.isNon {F : Hp} {v : V} {d : D} (r : Rf G F v d) : decide (v = V.non) = DL.isNon d := by
  cases r <;> first | rfl | exact decide_eq_false (fun z => by cases z)
def rIsN : R2D := fun x y M Q => match y with | .non => Q (.bl (isNon x)) M | _ => False
def rNotN : R2D := fun x y M Q => match y with | .non => Q (.bl (!isNon x)) M | _ => False
theorem dop_isN : OpD G X W (compareOp .Is) rIsN := by
  refine ⟨_, op_isN, fun F σ H ρ M x y dx dy Q Qv k rx ry c h => ?_⟩
  unfold rIsN at h
  split at h
  · cases ry; exact ⟨rfl, by rw [rx.isNon]; exact c _ H _ M F (Same.refl F) k (.bl _) h⟩
  · exact h.elim
theorem dop_notN : OpD G X W (compareOp .IsNot) rNotN := by
  refine ⟨_, op_notN, fun F σ H ρ M x y dx dy Q Qv k rx ry c h => ?_⟩
  unfold rNotN at h
  split at h
  · cases ry; exact ⟨rfl, by rw [rx.isNon]; exact c _ H _ M F (Same.refl F) k (.bl _) h⟩
  · exact h.elim

/-! ### argument lists, displays -/
def wNil : DWA := fun _ M Q _ => Q [] M
def wCons (w : DW) (r : DWA) : DWA := fun ρ M Q Ex => w ρ M (fun x M1 => r ρ M1 (fun xs M2 => Q (x :: xs) M2) Ex) Ex
theorem da_nil : DA G X W [] wNil := ⟨_, pa_nil, fun F σ H ρ M Q Ex Qv k l c h => c [] H [] M F (Same.refl F) k .nil h⟩
theorem da_cons {wr : DWA} (h : DE G X W e we) (h' : DA G X W es wr) (hs : starEach (e :: es) X.env = (false, eval e X.env) :: starEach es X.env := by rfl) : DA G X W (e :: es) (wCons we wr) := by
  obtain ⟨t, p, q⟩ := h.ex
  obtain ⟨t', p', q'⟩ := h'.ex
  refine ⟨_, pa_cons p p' hs, fun F σ H ρ M Q Ex Qv k l c h0 => q F σ H ρ M _ Ex _ k l (fun v H1 d M1 F1 e1 k1 r1 h1 => q' F1 σ H1 ρ M1 _ Ex _ k1 (l.mono e1) (fun vs H2 ds M2 F2 e2 k2 r2 h2 => ?_) h1) h0⟩
  exact c _ H2 _ M2 F2 (e1.trans e2) k2 (.cons (r1.mono e2) r2) h2
def wTup (w : DWA) : DW := fun ρ M Q Ex => w ρ M (fun xs M' => xs.length ≤ sizeLine ∧ Q (.tup xs) M') Ex
def wLst (w : DWA) : DW := fun ρ M Q Ex => w ρ M (fun xs M' => xs.length ≤ sizeLine ∧ Q (.lst xs) M') Ex
/-- a list of its own -/
def wLstO (w : DWA) : DW := fun ρ M Q Ex => w ρ M (fun xs M' => xs.length ≤ sizeLine ∧ ∀ p, M' p = none → Q (.ptr p) (M'.set p (.lst xs))) Ex
theorem de_tup {w : DWA} {x1 : Nat} (h : DA G X W es w) : DE G X W (.Tuple es x1 pos) (wTup w) := by
  obtain ⟨t, p, q⟩ := h.ex
  refine ⟨_, pe_tup p, fun F σ H ρ M Q Ex Qv k l c h0 => q F σ H ρ M _ Ex _ k l (fun vs H1 ds M1 F1 e1 k1 r1 h1 => ⟨by rw [r1.length]; exact h1.1, fun p hp => ?_⟩) h0⟩
  obtain ⟨F', e, k', r'⟩ := k1.newT r1 hp
  exact c _ _ _ M1 F' (e1.trans e) k' r' h1.2
theorem de_lst {w : DWA} (h : DA G X W es w) : DE G X W (.List es pos) (wLst w) := by
  obtain ⟨t, p, q⟩ := h.ex
  refine ⟨_, pe_lst p, fun F σ H ρ M Q Ex Qv k l c h0 => q F σ H ρ M _ Ex _ k l (fun vs H1 ds M1 F1 e1 k1 r1 h1 => ⟨by rw [r1.length]; exact h1.1, fun p hp => ?_⟩) h0⟩
  obtain ⟨F', e, k', r'⟩ := k1.newL r1 hp
  exact c _ _ _ M1 F' (e1.trans e) k' r' h1.2
theorem de_lstO {w : DWA} (h : DA G X W es w) : DE G X W (.List es pos) (wLstO w) := by
  obtain ⟨t, p, q⟩ := h.ex
  refine ⟨_, pe_lst p, fun F σ H ρ M Q Ex Qv k l c h0 => q F σ H ρ M _ Ex _ k l (fun vs H1 ds M1 F1 e1 k1 r1 h1 => ⟨by rw [r1.length]; exact h1.1, fun p hp => ?_⟩) h0⟩
  exact c _ _ _ _ F1 e1 (k1.ownL r1 hp) (.ptr p) (h1.2 p (k1.mem.fresh hp))

/-! ### items, slices -/
theorem Rfs.atI {F : Hp} {vs : List V} {ds : List D} (r : Rfs G F vs ds) {i : Int} {d : D} (h : L2.atI ds i = some d) : ∃ v, L2.atI vs i = some v ∧ Rf G F v d := by
  unfold L2.atI at h ⊢
  rw [r.length]
  cases e : ixN ds.length i with
  | none => rw [e] at h; cases h
  | some j =>
    rw [e] at h
    obtain ⟨v, h1, h2⟩ := r.get (i := j) h
    exact ⟨v, h1, h2⟩
/-- x[i] of a list, a tuple -/
def rIx : R2D := fun x y M Q => match y with
  | .int i => (match x with
    | .tup ds => (match L2.atI ds i with | some d => Q d M | none => False)
    | x => (match vw M x with
      | some ds => (match L2.atI ds i with | some d => Q d M | none => False)
      | none => False))
  | _ => False
theorem de_ix {k : Nat} (B : Bd G k X W) (ha : DE G X W a wa) (hb : DE G X W b wb) (hs : PlainIx b) : DE G X W (.Subscript a b pos) (wBin rIx wa wb) := by
  obtain ⟨ta, p1, q1⟩ := ha.ex
  obtain ⟨tb, p2, q2⟩ := hb.ex
  refine ⟨_, pe_ix (r := fun x y H Q => rIxL X.K x y H Q ∨ rIxT X.K x y H Q) (fun value slice pins s σ H x y v u Q I rx ry h hs => by
    rcases h with h | h
    · exact ix_list value slice pins s σ H x y v u Q I rx ry h hs
    · exact ix_tup value slice pins s σ H x y v u Q I rx ry h hs) p1 p2 hs, rdBin q1 q2 fun F σ H ρ M x y dx dy Q Qv k rx ry c h => ?_⟩
  unfold rIx at h
  rw [B.eK]
  split at h
  · next i =>
    cases ry
    split at h
    · next ds =>
      split at h
      · next d hd =>
        obtain ⟨a, xs, rfl, h1, h2⟩ := tup_sq k rx
        obtain ⟨v, e, r⟩ := h2.atI hd
        exact .inr ⟨a, xs, i, v, rfl, rfl, h1, e, c v H d M F (Same.refl F) k r h⟩
      · exact h.elim
    · split at h
      · next ds hv =>
        split at h
        · next d hd =>
          obtain ⟨a, xs, rfl, h1, h2⟩ := vw_sq k rx hv
          obtain ⟨v, e, r⟩ := h2.atI hd
          exact .inl ⟨a, xs, i, v, rfl, rfl, h1, e, c v H d M F (Same.refl F) k r h⟩
        · exact h.elim
      · exact h.elim
  · exact h.elim
/-- an end of a slice -/
abbrev DWO := Env' → Mem → (Option Int → Mem → Prop) → QX → Prop
structure DO (G : Gx) (X : Cx) (W : WX) (e : Option Expr) (w : DWO) : Prop where
  ex : ∃ t, PO X e t ∧ ∀ (F : Hp) (σ : St) (H : Hp) (ρ : Env') (M : Mem) (Q : Option Int → Mem → Prop) (Ex : QX) (Qv : Option Int → Hp → Prop), Ok G F σ H ρ M → ExL G W F Ex →
    (∀ d H' M' F', Same F F' → Ok G F' σ H' ρ M' → Q d M' → Qv d H') → w ρ M Q Ex → t σ H Qv
def wNoP : DWO := fun _ M Q _ => Q none M
def wP (w : DW) : DWO := fun ρ M Q Ex => w ρ M (fun d M' => match d with | .int i => Q (some i) M' | _ => False) Ex
theorem do_none : DO G X W none wNoP := ⟨_, po_none, fun F σ H ρ M Q Ex Qv k l c h => c none H M F (Same.refl F) k h⟩
theorem do_some (h : DE G X W e we) : DO G X W (some e) (wP we) := by
  obtain ⟨t, p, q⟩ := h.ex
  refine ⟨_, po_some p, fun F σ H ρ M Q Ex Qv k l c h0 => q F σ H ρ M _ Ex _ k l (fun v H1 d M1 F1 e1 k1 r1 h1 => ?_) h0⟩
  try dsimp only at h1
  split at h1
  · next i => cases r1; exact ⟨i, rfl, c _ H1 M1 F1 e1 k1 h1⟩
  · exact h1.elim
def cutD {α : Type} (xs : List α) (lo hi : Option Int) : List α := (xs.drop (HT.sIx xs.length 0 lo)).take (HT.sIx xs.length xs.length hi - HT.sIx xs.length 0 lo)
theorem Rfs.cut {F : Hp} {vs : List V} {ds : List D} (r : Rfs G F vs ds) (lo hi : Option Int) : Rfs G F (cutV vs lo hi) (cutD ds lo hi) := by
  unfold cutV cutD
  rw [r.length]
  exact (r.drop _).take _
theorem cutV_whole {xs : List V} {lo hi : Option Int} (h : HT.sIx xs.length 0 lo = 0 ∧ HT.sIx xs.length xs.length hi = xs.length) : cutV xs lo hi = xs := by
  unfold cutV
  rw [h.1, h.2, List.drop_zero, Nat.sub_zero, List.take_length]
theorem cutD_whole {α : Type} {xs : List α} {lo hi : Option Int} (h : HT.sIx xs.length 0 lo = 0 ∧ HT.sIx xs.length xs.length hi = xs.length) : cutD xs lo hi = xs := by
  unfold cutD
  rw [h.1, h.2, List.drop_zero, Nat.sub_zero, List.take_length]
def wSl (we : DW) (wl wh : DWO) : DW := fun ρ M Q Ex => we ρ M (fun x M1 => wl ρ M1 (fun l M2 => wh ρ M2 (fun u M3 => match x with
  | .tup ds => Q (.tup (cutD ds l u)) M3
  | .str z => z.length ≤ sizeLine ∧ Q (.str (cutS z l u)) M3
  | x => match vw M3 x with
    | some ds => Q (.lst (cutD ds l u)) M3
    | none => False) Ex) Ex) Ex
theorem de_slice {k : Nat} (B : Bd G k X W) {lo hi : Option Expr} {wl wh : DWO} (h : DE G X W e we) (hl : DO G X W lo wl) (hh : DO G X W hi wh) : DE G X W (.Subscript e (.Slice lo hi none p2) pos) (wSl we wl wh) := by
  obtain ⟨t, p, q⟩ := h.ex
  obtain ⟨t1, p1, q1⟩ := hl.ex
  obtain ⟨t2, p2, q2⟩ := hh.ex
  refine ⟨_, pe_slice ((sl_list (X := X)).or ((sl_tupA (X := X)).or sl_str)) p p1 p2, fun F σ H ρ M Q Ex Qv k l c h0 => q F σ H ρ M _ Ex _ k l (fun v H1 d M1 F1 e1 k1 r1 h1 =>
    q1 F1 σ H1 ρ M1 _ Ex _ k1 (l.mono e1) (fun lo' H2 M2 F2 e2 k2 h2 => q2 F2 σ H2 ρ M2 _ Ex _ k2 (l.mono (e1.trans e2)) (fun hi' H3 M3 F3 e3 k3 h3 => ?_) h2) h1) h0⟩
  have r3 := r1.mono (e2.trans e3)
  have e123 := (e1.trans e2).trans e3
  rw [B.eK]
  try dsimp only at h3
  split at h3
  · next ds =>
    obtain ⟨a, xs, rfl, h4, h5⟩ := tup_sq k3 r3
    refine .inr (.inl ⟨a, xs, rfl, h4, fun hw => ?_, fun _ p hp => ?_⟩)
    · rw [h5.length] at hw
      rw [cutD_whole hw] at h3
      exact c _ H3 _ M3 F3 e123 k3 r3 h3
    · obtain ⟨F', e, k', r'⟩ := k3.newT (h5.cut lo' hi') hp
      exact c _ _ _ M3 F' (e123.trans e) k' r' h3
  · next z =>
    cases r3
    exact .inr (.inr ⟨z, rfl, h3.1, c _ H3 _ M3 F3 e123 k3 (.str _) h3.2⟩)
  · split at h3
    · next ds hv =>
      obtain ⟨a, xs, rfl, h4, h5⟩ := vw_sq k3 r3 hv
      refine .inl ⟨a, xs, rfl, h4, fun p hp => ?_⟩
      obtain ⟨F', e, k', r'⟩ := k3.newL (h5.cut lo' hi') hp
      exact c _ _ _ M3 F' (e123.trans e) k' r' h3
    · exact h3.elim
/-- xs[::-1] -/
def wRev (we : DW) : DW := fun ρ M Q Ex => we ρ M (fun x M1 => match vw M1 x with
  | some ds => Q (.lst ds.reverse) M1
  | none => False) Ex
theorem de_rev {k : Nat} (B : Bd G k X W) {n : Nat} {q1 q2 q3 : Pos} (h : DE G X W e we) : DE G X W (.Subscript e (.Slice none none (some (.UnaryOp .USub (.Constant (.int 1) n q1) q2)) q3) pos) (wRev we) := by
  obtain ⟨t, p, q⟩ := h.ex
  refine ⟨_, pe_revL p, fun F σ H ρ M Q Ex Qv k l c h0 => q F σ H ρ M _ Ex _ k l (fun v H1 d M1 F1 e1 k1 r1 h1 => ?_) h0⟩
  try dsimp only at h1
  rw [B.eK]
  split at h1
  · next ds hv =>
    obtain ⟨a, xs, rfl, h4, h5⟩ := vw_sq k1 r1 hv
    refine ⟨a, xs, rfl, h4, fun p hp => ?_⟩
    obtain ⟨F', e, k', r'⟩ := k1.newL h5.reverse hp
    exact c _ _ _ M1 F' (e1.trans e) k' r' h1
  · exact h1.elim

/-! ### built-ins called -/
abbrev R1D := List D → Mem → QE → Prop
def CallD (G : Gx) (X : Cx) (W : WX) (f : Value) (r : R1D) : Prop := ∃ rv, CallR X f rv ∧ ∀ (F : Hp) (σ : St) (H : Hp) (ρ : Env') (M : Mem) (vs : List V) (ds : List D) (Q : QE) (Qv : VK), Ok G F σ H ρ M → Rfs G F vs ds →
  (∀ v H' d M' F', Same F F' → Ok G F' σ H' ρ M' → Rf G F' v d → Q d M' → Qv v H') → r ds M Q → rv vs H Qv
def wCB (r : R1D) (w : DWA) : DW := fun ρ M Q Ex => w ρ M (fun ds M' => r ds M' Q) Ex
theorem rdCB {t : TA} {rv : List V → Hp → VK → Prop} {r : R1D} {w : DWA} (hq : RdA G W t w) (h2 : ∀ (F : Hp) (σ : St) (H : Hp) (ρ : Env') (M : Mem) (vs : List V) (ds : List D) (Q : QE) (Qv : VK), Ok G F σ H ρ M → Rfs G F vs ds →
    (∀ v H' d M' F', Same F F' → Ok G F' σ H' ρ M' → Rf G F' v d → Q d M' → Qv v H') → r ds M Q → rv vs H Qv) : RdE G W (tCB rv t) (wCB r w) :=
  fun F σ H ρ M Q Ex Qv k l c h => hq F σ H ρ M _ Ex _ k l (fun vs H1 ds M1 F1 e1 k1 r1 h1 => h2 F1 σ H1 ρ M1 vs ds Q Qv k1 r1 (fun v H' d M' F' e2 => c v H' d M' F' (e1.trans e2)) h1) h
theorem de_callB {k : Nat} (B : Bd G k X W) {x id : String} {r : R1D} {w : DWA} {p : Pos} (hc : CallD G X W (.builtin id) r) (n : Bn G X x (.builtin id)) (h : DA G X W (e :: es) w)
    (he : starEach (e :: es) X.env = (false, eval e X.env) :: starEach es X.env := by rfl) (hpl : (backTo pos (starEach es X.env)).any (·.1) = false := by rfl) : DE G X W (.Call (.Name x p) (e :: es) [] pos) (wCB r w) := by
  obtain ⟨rv, h1, h2⟩ := hc
  obtain ⟨t, pp, q⟩ := h.ex
  exact ⟨_, pe_callB h1 n.hg (by rw [B.emg]; exact n.hm) n.hv pp n.hn n.hd he hpl, rdCB q h2⟩
theorem de_callTy {k : Nat} (B : Bd G k X W) {x T : String} {r : R1D} {w : DWA} {p : Pos} (hc : CallD G X W (.type T) r) (n : Bn G X x (.type T)) (h : DA G X W (e :: es) w)
    (he : starEach (e :: es) X.env = (false, eval e X.env) :: starEach es X.env := by rfl) (hpl : (backTo pos (starEach es X.env)).any (·.1) = false := by rfl) : DE G X W (.Call (.Name x p) (e :: es) [] pos) (wCB r w) := by
  obtain ⟨rv, h1, h2⟩ := hc
  obtain ⟨t, pp, q⟩ := h.ex
  exact ⟨_, pe_callTy h1 n.hg (by rw [B.emg]; exact n.hm) n.hv pp n.hn n.hd he hpl, rdCB q h2⟩
def rLen : R1D := fun ds M Q => match ds with
  | [.tup xs] => Q (.int xs.length) M
  | [.str z] => z.length ≤ sizeLine ∧ Q (.int z.length) M
  | [x] => (match vw M x with | some xs => Q (.int xs.length) M | none => False)
  | _ => False
theorem dc_len {k : Nat} (B : Bd G k X W) : CallD G X W (.builtin "len") rLen := by
  refine ⟨_, call_len, fun F σ H ρ M vs ds Q Qv k r c h => ?_⟩
  unfold rLen at h
  rw [B.eK]
  split at h
  · next xs =>
    cases r with | cons r1 r2 => cases r2; obtain ⟨a, ys, rfl, h4, h5⟩ := tup_sq k r1; exact ⟨_, ys.length, rfl, .inr ⟨ys, h4, rfl⟩, by rw [h5.length]; exact c _ H _ M F (Same.refl F) k (.int _) h⟩
  · next z =>
    cases r with | cons r1 r2 => cases r2; cases r1; exact ⟨_, _, rfl, ⟨h.1, rfl⟩, c _ H _ M F (Same.refl F) k (.int _) h.2⟩
  · split at h
    · next xs hv =>
      cases r with | cons r1 r2 => cases r2; obtain ⟨a, ys, rfl, h4, h5⟩ := vw_sq k r1 hv; exact ⟨_, ys.length, rfl, .inl ⟨ys, h4, rfl⟩, by rw [h5.length]; exact c _ H _ M F (Same.refl F) k (.int _) h⟩
    · exact h.elim
  · exact h.elim
end
end DL
namespace DL
open PySem PySem.Spec L2
section
variable {G : Gx} {X : Cx} {W : WX} {a b c e o tg iter : Expr} {es rest : List Expr} {pos p2 : Pos} {wa wb wc we wo : DW} {wA wB : DWT} {j : Nat} {st : Stmt} {sts body els : List Stmt} {ws ws' wbd : DWS}

/-! ### blocks -/
def sNil : DWS := fun k ρ M => k.nx ρ M
def sSeq (w w' : DWS) : DWS := fun k ρ M => w { k with nx := fun ρ' M' => w' k ρ' M' } ρ M
theorem dss_nil : DSs G X W [] sNil := ⟨_, pss_nil, fun F σ H ρ M k D ok l en h => en.nx σ H ρ M F (Same.refl F) ok h⟩
theorem dss_cons (h : DS G X W st ws) (h' : DSs G X W sts ws') : DSs G X W (st :: sts) (sSeq ws ws') := by
  obtain ⟨t, p, q⟩ := h.ex
  obtain ⟨t', p', q'⟩ := h'.ex
  refine ⟨_, pss_cons p p', fun F σ H ρ M k D ok l en h0 => q F σ H ρ M { k with nx := fun ρ' M' => ws' k ρ' M' } _ ok l ⟨fun σ' H' ρ' M' F' e ok' h1 => ?_, en.bk, en.ct, en.rt⟩ h0⟩
  exact q' F' σ' H' ρ' M' k D ok' (l.mono e) (en.mono e) h1
theorem dss_one (h : DS G X W st ws) : DSs G X W [st] ws := by
  obtain ⟨t, p, q⟩ := h.ex
  exact ⟨_, pss_one p, q⟩
def sNever : DWS := fun _ _ _ => False
theorem ds_never : DS G X W st sNever := ⟨_, ps_never, fun F σ H ρ M k D ok l en h => h.elim⟩
theorem dss_never : DSs G X W sts sNever := ⟨_, pss_never, fun F σ H ρ M k D ok l en h => h.elim⟩
theorem ds_pass : DS G X W (.Pass pos) sNil := ⟨_, ps_pass, fun F σ H ρ M k D ok l en h => en.nx σ H ρ M F (Same.refl F) ok h⟩
def sBreak : DWS := fun k ρ M => k.bk ρ M
def sCont : DWS := fun k ρ M => k.ct ρ M
theorem ds_break : DS G X W (.Break pos) sBreak := ⟨_, ps_break, fun F σ H ρ M k D ok l en h => en.bk σ H ρ M F (Same.refl F) ok h⟩
theorem ds_cont : DS G X W (.Continue pos) sCont := ⟨_, ps_continue, fun F σ H ρ M k D ok l en h => en.ct σ H ρ M F (Same.refl F) ok h⟩
theorem ds_doc {x : Str} {j : Nat} : DS G X W (.Expr (.Constant (.str x) j pos) p2) sNil := ⟨_, ps_doc, fun F σ H ρ M k D ok l en h => en.nx σ H ρ M F (Same.refl F) ok h⟩
def sDrop (w : DW) : DWS := fun k ρ M => w ρ M (fun _ M' => k.nx ρ M') k.ex
theorem ds_expr (h : DE G X W e we) (hs : swapsWith e none pos.line X.env = pure false := by rfl) : DS G X W (.Expr e pos) (sDrop we) := by
  obtain ⟨t, p, q⟩ := h.ex
  exact ⟨_, ps_expr p hs, fun F σ H ρ M k D ok l en h0 => q F σ H ρ M _ _ _ ok l (fun v H' d M' F' e ok' r h1 => en.nx σ H' ρ M' F' e ok' h1) h0⟩
def sRet (w : DW) : DWS := fun k ρ M => w ρ M k.rt k.ex
theorem ds_ret (h : DE G X W e we) : DS G X W (.Return (some e) pos) (sRet we) := by
  obtain ⟨t, p, q⟩ := h.ex
  exact ⟨_, ps_ret p, fun F σ H ρ M k D ok l en h0 => q F σ H ρ M _ _ _ ok l (fun v H' d M' F' e ok' r h1 => en.rt v σ H' ρ d M' F' e ok' r h1) h0⟩
def sRetN : DWS := fun k _ M => k.rt .non M
theorem ds_retN : DS G X W (.Return none pos) sRetN := ⟨_, ps_retN, fun F σ H ρ M k D ok l en h => en.rt _ σ H ρ _ M F (Same.refl F) ok .non h⟩
def sIf (wt : DWT) (w w' : DWS) : DWS := fun k ρ M => wt ρ M (fun b M' => if b = true then w k ρ M' else w' k ρ M') k.ex
theorem ds_if (h : DT G X W c wA) (ha : DSs G X W body ws) (hb : DSs G X W els ws') : DS G X W (.If c body els pos) (sIf wA ws ws') := by
  obtain ⟨t, p, q⟩ := h.ex
  obtain ⟨t1, p1, q1⟩ := ha.ex
  obtain ⟨t2, p2, q2⟩ := hb.ex
  refine ⟨_, ps_if p p1 p2, fun F σ H ρ M k D ok l en h0 => q F σ H ρ M _ _ _ ok l (fun b H' M' F' e ok' h1 => ?_) h0⟩
  cases b with
  | true => exact q1 F' σ H' ρ M' k D ok' (l.mono e) (en.mono e) h1
  | false => exact q2 F' σ H' ρ M' k D ok' (l.mono e) (en.mono e) h1

/-! ### targets -/
abbrev DWG := D → Env' → Mem → (Env' → Mem → Prop) → Prop
abbrev DWGs := List D → Env' → Mem → (Env' → Mem → Prop) → Prop
/-- own: the slots that are stored -/
structure DG (G : Gx) (X : Cx) (tg : Expr) (own : List Nat) (w : DWG) : Prop where
  ex : ∃ t, PG X tg t ∧ ∀ (F : Hp) (σ : St) (H : Hp) (ρ : Env') (M : Mem) (v : V) (d : D) (Q : Env' → Mem → Prop) (Qv : St → Hp → Prop), Ok G F σ H ρ M → Rf G F v d →
    (∀ σ' H' ρ' M' F', (∀ vs : List Nat, (∀ i ∈ own, i ∈ vs) → wipe σ' vs = wipe σ vs) → Same F F' → Ok G F' σ' H' ρ' M' → Q ρ' M' → Qv σ' H') → w d ρ M Q → t v σ H Qv
structure DGs (G : Gx) (X : Cx) (tgs : List Expr) (own : List Nat) (w : DWGs) : Prop where
  ex : ∃ t, PGs X tgs t ∧ ∀ (F : Hp) (σ : St) (H : Hp) (ρ : Env') (M : Mem) (v : List V) (d : List D) (Q : Env' → Mem → Prop) (Qv : St → Hp → Prop), Ok G F σ H ρ M → Rfs G F v d →
    (∀ σ' H' ρ' M' F', (∀ vs : List Nat, (∀ i ∈ own, i ∈ vs) → wipe σ' vs = wipe σ vs) → Same F F' → Ok G F' σ' H' ρ' M' → Q ρ' M' → Qv σ' H') → w d ρ M Q → t v σ H Qv
theorem wipe_set {i : Nat} {x : Option V} : ∀ {vs : List Nat} {σ : St}, i ∈ vs → wipe (σ.set i x) vs = wipe σ vs := by
  have gen : ∀ (vs : List Nat) (σ : St) (k : Nat), (wipe σ vs)[k]? = if k ∈ vs then (if k < σ.length then some none else none) else σ[k]? := by
    intro vs
    induction vs with
    | nil => intro σ k; simp [wipe]
    | cons v vs ih =>
      intro σ k
      show ((wipe σ vs).set v none)[k]? = _
      by_cases h2 : k = v
      · subst h2
        rw [List.getElem?_set]
        simp [wipe_length]
      · rw [List.getElem?_set_ne (Ne.symm h2), ih]
        simp [h2]
  intro vs σ hi
  apply List.ext_getElem?
  intro k
  rw [gen, gen]
  by_cases h : k ∈ vs
  · simp [h]
  · rw [if_neg h, if_neg h]
    have : i ≠ k := fun e => h (e ▸ hi)
    rw [List.getElem?_set_ne this]
def gNm (i : Nat) : DWG := fun d ρ M Q => Q (ρ.set i (some d)) M
/-- a name that is stored -/
structure Sn (X : Cx) (i : Nat) (x : Str) : Prop where
  nd : X.N.Nodup
  hi : X.N[i]? = some x
  hx : Loc X.env.scope x
  hf : X.fn x = true ∨ X.env.scope.names.lookup x = some .local
theorem dg_name {i : Nat} {x : Str} (s : Sn X i x) : DG G X (.Name x pos) [i] (gNm i) :=
  ⟨_, pg_name s.nd s.hi s.hx s.hf, fun F σ H ρ M v d Q Qv k r c h => c _ H _ M F (fun vs hv => wipe_set (hv i (by simp))) (Same.refl F) (k.slot i r) h⟩
def gsNil : DWGs := fun ds ρ M Q => match ds with | [] => Q ρ M | _ => False
def gsCons (w : DWG) (w' : DWGs) : DWGs := fun ds ρ M Q => match ds with | [] => False | d :: ds => w d ρ M (fun ρ' M' => w' ds ρ' M' Q)
theorem dgs_nil : DGs G X [] [] gsNil := by
  refine ⟨_, pgs_nil, fun F σ H ρ M v d Q Qv k r c h => ?_⟩
  cases r with
  | nil => exact ⟨rfl, c _ H _ M F (fun vs hv => rfl) (Same.refl F) k h⟩
  | cons _ _ => exact h.elim
theorem dgs_cons {o1 o2 : List Nat} {w : DWG} {w' : DWGs} (h : DG G X e o1 w) (h' : DGs G X es o2 w') (hs : (assignEach (e :: es) X.env).map (·.2) = assign e X.env :: (assignEach es X.env).map (·.2) := by rfl) : DGs G X (e :: es) (o1 ++ o2) (gsCons w w') := by
  obtain ⟨t, p, q⟩ := h.ex
  obtain ⟨t', p', q'⟩ := h'.ex
  refine ⟨_, pgs_cons p p' hs, fun F σ H ρ M v d Q Qv k r c h => ?_⟩
  cases r with
  | nil => exact h.elim
  | cons r1 r2 =>
    refine ⟨_, _, rfl, q F σ H ρ M _ _ _ _ k r1 (fun σ' H' ρ' M' F' hw e k' h1 => q' F' σ' H' ρ' M' _ _ _ _ k' (r2.mono e) (fun σ2 H2 ρ2 M2 F2 hw2 e2 => c σ2 H2 ρ2 M2 F2 (fun vs hv => ?_) (e.trans e2)) h1) h⟩
    rw [hw2 vs fun i hi => hv i (List.mem_append_right _ hi), hw vs fun i hi => hv i (List.mem_append_left _ hi)]
def gTp (w : DWGs) : DWG := fun d ρ M Q => match d with | .tup ds => w ds ρ M Q | _ => False
theorem dg_tup {kb n k : Nat} {own : List Nat} {w : DWGs} (B : Bd G kb X W) (h : DGs G X es own w) (hw : ∀ ds ρ M Q, w ds ρ M Q → ds.length = n)
    (hn : (assignEach es X.env).length = n := by rfl) (hst : (assignEach es X.env).findIdx? (·.1) = none := by rfl) : DG G X (.Tuple es k pos) own (gTp w) := by
  obtain ⟨t, p, q⟩ := h.ex
  refine ⟨_, pg_tup B.calm p hn hst, fun F σ H ρ M v d Q Qv k r c h => ?_⟩
  unfold gTp at h
  split at h
  · next ds =>
    obtain ⟨a, xs, rfl, h4, h5⟩ := tup_sq k r
    rw [← B.eK] at h4
    exact ⟨a, xs, rfl, h4, by rw [h5.length]; exact hw _ _ _ _ h, q F σ H ρ M _ _ _ _ k h5 c h⟩
  · exact h.elim
theorem gs1 {w : DWG} : ∀ ds ρ M Q, gsCons w gsNil ds ρ M Q → (∀ d ρ M Q, w d ρ M Q → True) → True := fun _ _ _ _ _ _ => trivial
/-- name = value -/
def sSet (i : Nat) (w : DW) : DWS := fun k ρ M => w ρ M (fun d M' => k.nx (ρ.set i (some d)) M') k.ex
theorem ds_set {i : Nat} {x : Str} {px : Pos} (s : Sn X i x) (h : DE G X W e we) (hs : swapsWith e (some (.Name x px)) pos.line X.env = pure false := by rfl) : DS G X W (.Assign [.Name x px] e pos) (sSet i we) := by
  obtain ⟨t, p, q⟩ := h.ex
  exact ⟨_, ps_set s.nd s.hi s.hx p hs s.hf, fun F σ H ρ M k D ok l en h0 => q F σ H ρ M _ _ _ ok l (fun v H' d M' F' e ok' r h1 => en.nx _ H' _ M' F' e (ok'.slot i r) h1) h0⟩
def sAsg (g : DWG) (w : DW) : DWS := fun k ρ M => w ρ M (fun d M' => g d ρ M' (fun ρ' M2 => k.nx ρ' M2)) k.ex
theorem ds_asg {own : List Nat} {g : DWG} (h : DE G X W e we) (hg : DG G X tg own g) (hs : swapsWithSole [tg] e pos.line X.env = pure false := by rfl) (hw : swappedStores [tg] e X.env = pure none := by rfl)
    (h1 : (assignEach [tg] X.env).map (·.2) = [assign tg X.env] := by rfl) : DS G X W (.Assign [tg] e pos) (sAsg g we) := by
  obtain ⟨t, p, q⟩ := h.ex
  obtain ⟨t', p', q'⟩ := hg.ex
  exact ⟨_, ps_asg p p' hs hw h1, fun F σ H ρ M k D ok l en h0 => q F σ H ρ M _ _ _ ok l (fun v H' d M' F' e ok' r h1 => q' F' σ H' ρ M' _ _ _ _ ok' r (fun σ2 H2 ρ2 M2 F2 _ e2 ok2 h2 => en.nx σ2 H2 ρ2 M2 F2 (e.trans e2) ok2 h2) h1) h0⟩
/-- a, b = x, y -/
def sPar (i j : Nat) (w : DWA) : DWS := fun k ρ M => w ρ M (fun ds M' => match ds with | [d1, d2] => k.nx ((ρ.set i (some d1)).set j (some d2)) M' | _ => False) k.ex
theorem ds_par {kb i j : Nat} {x y : Str} {w : DWA} {px py pt pt2 : Pos} {kt k2 : Nat} (B : Bd G kb X W) (hi : X.N[i]? = some x) (hj : X.N[j]? = some y) (hij : i ≠ j)
    (hx : X.env.scope.names.lookup x = some .local) (hy : X.env.scope.names.lookup y = some .local) (h : DA G X W [a, b] w)
    (hw : swappedStores [.Tuple [.Name x px, .Name y py] kt pt] (.Tuple [a, b] k2 pt2) X.env = pure (some [x, y]))
    (hs : swapsWithSole [.Tuple [.Name x px, .Name y py] kt pt] (.Tuple [a, b] k2 pt2) pos.line X.env = pure false := by rfl) :
    DS G X W (.Assign [.Tuple [.Name x px, .Name y py] kt pt] (.Tuple [a, b] k2 pt2) pos) (sPar i j w) := by
  obtain ⟨t, p, q⟩ := h.ex
  refine ⟨_, ps_par B.calm B.nd hi hj hij hx hy p hw hs, fun F σ H ρ M k D ok l en h0 => q F σ H ρ M _ _ _ ok l (fun v H' d M' F' e ok' r h1 => ?_) h0⟩
  try dsimp only at h1
  split at h1
  · next d1 d2 =>
    cases r with
    | cons r1 r2 =>
      cases r2 with
      | cons r2 r3 =>
        cases r3
        exact ⟨_, _, rfl, en.nx _ H' _ M' F' e ((ok'.slot i r1).slot j r2) h1⟩
  · exact h1.elim
/-- name += e: intsD, texts -/
def rIAdd : R2D := fun x y M Q => match x, y with
  | .int i, .int j => Q (.int (i + j)) M
  | .str i, .str j => i.length + j.length ≤ sizeLine ∧ Q (.str (i ++ j)) M
  | _, _ => False
def rISub : R2D := fun x y M Q => match x, y with
  | .int i, .int j => Q (.int (i - j)) M
  | _, _ => False
def sAug (i : Nat) (r : R2D) (w : DW) : DWS := fun k ρ M => match ρ[i]? with
  | some (some d) => w ρ M (fun y M' => r d y M' (fun z M2 => k.nx (ρ.set i (some z)) M2)) k.ex
  | _ => False
theorem ds_augAdd {i : Nat} {x : Str} {px : Pos} (s : Sn X i x) (h : DE G X W e we) : DS G X W (.AugAssign (.Name x px) .Add e pos) (sAug i rIAdd we) := by
  obtain ⟨t, p, q⟩ := h.ex
  refine ⟨_, ps_aug (ti := fun x y H Q => rI0 (fun i j => .int (i + j)) x y H Q ∨ (∃ i j, x = .str i ∧ y = .str j ∧ i.length + j.length ≤ sizeLine ∧ Q (.str (i ++ j)) H)) s.nd s.hi s.hx p (fun pins s σ H x y v u Q I rx ry h => (iop_add.or iop_add_str) pins s σ H x y v u Q I rx ry h) s.hf, fun F σ H ρ M k D ok l en h0 => ?_⟩
  unfold sAug at h0
  split at h0
  · next d hd =>
    obtain ⟨v, e1, r⟩ := ok.env.get hd
    refine ⟨v, e1, q F σ H ρ M _ _ _ ok l (fun v2 H' d2 M' F' e ok' r2 h1 => ?_) h0⟩
    have r' := r.mono e
    try dsimp only at h1
    unfold rIAdd at h1
    split at h1
    · cases r'; cases r2; exact .inl ⟨_, _, rfl, rfl, en.nx _ H' _ M' F' e (ok'.slot i (.int _)) h1⟩
    · cases r'; cases r2; exact .inr ⟨_, _, rfl, rfl, h1.1, en.nx _ H' _ M' F' e (ok'.slot i (.str _)) h1.2⟩
    · exact h1.elim
  · exact h0.elim
theorem ds_augSub {i : Nat} {x : Str} {px : Pos} (s : Sn X i x) (h : DE G X W e we) : DS G X W (.AugAssign (.Name x px) .Sub e pos) (sAug i rISub we) := by
  obtain ⟨t, p, q⟩ := h.ex
  refine ⟨_, ps_aug s.nd s.hi s.hx p ip_sub s.hf, fun F σ H ρ M k D ok l en h0 => ?_⟩
  unfold sAug at h0
  split at h0
  · next d hd =>
    obtain ⟨v, e1, r⟩ := ok.env.get hd
    refine ⟨v, e1, q F σ H ρ M _ _ _ ok l (fun v2 H' d2 M' F' e ok' r2 h1 => ?_) h0⟩
    have r' := r.mono e
    try dsimp only at h1
    unfold rISub at h1
    split at h1
    · cases r'; cases r2; exact ⟨_, _, rfl, rfl, en.nx _ H' _ M' F' e (ok'.slot i (.int _)) h1⟩
    · exact h1.elim
  · exact h0.elim

/-! ### while: within n turns -/
def whN (wt : DWT) (wb : DWS) (k : DK) : Nat → Env' → Mem → Prop
  | 0, _, _ => False
  | n + 1, ρ, M => wt ρ M (fun b M' => if b = true then wb { k with nx := whN wt wb k n, ct := whN wt wb k n, bk := k.nx } ρ M' else k.nx ρ M') k.ex
def sWhile (wt : DWT) (wb : DWS) : DWS := fun k ρ M => ∃ n, whN wt wb k n ρ M
theorem ds_while {kb : Nat} (B : Bd G kb X W) (h : DT G X W c wA) (hb : DSs G X W body wbd) : DS G X W (.While c body [] pos) (sWhile wA wbd) := by
  obtain ⟨t, p, q⟩ := h.ex
  obtain ⟨t1, p1, q1⟩ := hb.ex
  refine ⟨_, ps_while B.po p p1, fun F σ H ρ M k D ok l en h0 => ?_⟩
  obtain ⟨n, h0⟩ := h0
  refine ⟨fun m σ H => ∃ F' ρ M, Same F F' ∧ Ok G F' σ H ρ M ∧ whN wA wbd k m ρ M, ⟨n, F, ρ, M, Same.refl F, ok, h0⟩, ?_⟩
  rintro m σ H ⟨F1, ρ, M, e1, ok1, h1⟩
  cases m with
  | zero => exact h1.elim
  | succ m =>
    refine q F1 σ H ρ M _ _ _ ok1 (l.mono e1) (fun b H' M' F' e ok' h2 => ?_) h1
    cases b with
    | false => rw [if_neg Bool.false_ne_true]; exact en.nx σ H' ρ M' F' (e1.trans e) ok' h2
    | true =>
      rw [if_pos rfl]
      refine ⟨fun σ' H' => ∃ F' ρ M, Same F F' ∧ Ok G F' σ' H' ρ M ∧ whN wA wbd k m ρ M, fun σ' H' hN => ⟨m, Nat.lt_succ_self m, hN⟩, ?_⟩
      have e2 := e1.trans e
      exact q1 F' σ H' ρ M' { k with nx := whN wA wbd k m, ct := whN wA wbd k m, bk := k.nx } _ ok' (l.mono e2) ⟨fun σ3 H3 ρ3 M3 F3 e3 ok3 h3 => ⟨F3, ρ3, M3, e2.trans e3, ok3, h3⟩, fun σ3 H3 ρ3 M3 F3 e3 ok3 h3 => en.nx σ3 H3 ρ3 M3 F3 (e2.trans e3) ok3 h3,
        fun σ3 H3 ρ3 M3 F3 e3 ok3 h3 => ⟨F3, ρ3, M3, e2.trans e3, ok3, h3⟩, (en.mono e2).rt⟩ h2

/-! ### what is walked -/
/-- the walk J yields the data ds, while g holds -/
def ItD (G : Gx) (J : It) (F0 : Hp) (g : Mem → Prop) (ds : List D) : Prop := ∀ (i : Nat) (F : Hp) (σ : St) (H : Hp) (ρ : Env') (M : Mem), Same F0 F → Ok G F σ H ρ M → g M →
  (i < ds.length → J.go i H ∧ ∀ x H', J.yld i H x H' → ∃ F' d, Same F F' ∧ (∀ σ ρ M, Ok G F σ H ρ M → Ok G F' σ H' ρ M) ∧ ds[i]? = some d ∧ Rf G F' x d) ∧ (ds.length ≤ i → J.stop i H)
abbrev DWI := Env' → Mem → (List D → (Mem → Prop) → Mem → Prop) → QX → Prop
structure DI (G : Gx) (X : Cx) (W : WX) (tg iter : Expr) (w : DWI) : Prop where
  ex : ∃ wi, PI X tg iter wi ∧ ∀ (F : Hp) (σ : St) (H : Hp) (ρ : Env') (M : Mem) (Q : List D → (Mem → Prop) → Mem → Prop) (Ex : QX) (R : It → Hp → Prop), Ok G F σ H ρ M → ExL G W F Ex →
    (∀ J ds g H' M' F', Same F F' → Ok G F' σ H' ρ M' → ItD G J F' g ds → g M' → Q ds g M' → R J H') → w ρ M Q Ex → wi σ H R
/-- a list: frozen, or owned (then it is to stay) -/
def wiL (w : DW) : DWI := fun ρ M Q Ex => w ρ M (fun d M' => match d with
  | .lst ds => Q ds (fun _ => True) M'
  | .ptr p => (match M' p with
    | some (.lst ds) => Q ds (fun M2 => M2 p = some (.lst ds)) M'
    | _ => False)
  | _ => False) Ex
theorem di_list {kb : Nat} (B : Bd G kb X W) (h : DE G X W e we) : DI G X W tg e (wiL we) := by
  obtain ⟨t, p, q⟩ := h.ex
  refine ⟨_, pi_list p, fun F σ H ρ M Q Ex R ok l c h0 => q F σ H ρ M _ Ex _ ok l (fun v H' d M' F' e ok' r h1 => ?_) h0⟩
  rw [B.eK]
  try dsimp only at h1
  split at h1
  · next ds =>
    obtain ⟨a, xs, rfl, h4, h5⟩ := vw_sq (d := .lst ds) ok' r rfl
    cases r with
    | lst hs hr =>
      rename_i a xs
      refine ⟨a, rfl, ⟨xs, ok'.same.seq hs⟩, c _ ds _ H' M' F' e ok' (fun i F2 σ2 H2 ρ2 M2 e2 ok2 _ => ⟨fun hi => ?_, fun hi => ⟨xs, ok2.same.seq (e2.seq hs), by rw [hr.length]; exact hi⟩⟩) trivial h1⟩
      obtain ⟨d, hd⟩ : ∃ d, ds[i]? = some d := ⟨_, List.getElem?_eq_getElem hi⟩
      obtain ⟨x, hx, rx⟩ := hr.get hd
      have sq := ok2.same.seq (e2.seq hs)
      refine ⟨⟨xs, x, sq, hx⟩, fun y H3 hy => ⟨F2, d, Same.refl F2, ?_, hd, ?_⟩⟩
      · rw [hy.1]; exact fun _ _ _ k => k
      · have := (hy.2 xs sq).symm.trans hx; cases this; exact rx.mono e2
  · next a =>
    split at h1
    · next ds hm =>
      cases r
      obtain ⟨_, xs, hH, hr⟩ := ok'.mem a _ hm
      refine ⟨a, rfl, ⟨xs, SqL.of hH⟩, c _ ds _ H' M' F' e ok' (fun i F2 σ2 H2 ρ2 M2 e2 ok2 hg => ?_) hm h1⟩
      obtain ⟨_, xs2, hH2, hr2⟩ := ok2.mem a _ hg
      refine ⟨fun hi => ?_, fun hi => ⟨xs2, SqL.of hH2, by rw [hr2.length]; exact hi⟩⟩
      obtain ⟨d, hd⟩ : ∃ d, ds[i]? = some d := ⟨_, List.getElem?_eq_getElem hi⟩
      obtain ⟨x, hx, rx⟩ := hr2.get hd
      refine ⟨⟨xs2, x, SqL.of hH2, hx⟩, fun y H3 hy => ⟨F2, d, Same.refl F2, ?_, hd, ?_⟩⟩
      · rw [hy.1]; exact fun _ _ _ k => k
      · have := (hy.2 xs2 (SqL.of hH2)).symm.trans hx; cases this; exact rx
    · exact h1.elim
  · exact h1.elim
/-- a tuple -/
def wiT (w : DW) : DWI := fun ρ M Q Ex => w ρ M (fun d M' => match d with
  | .tup ds => Q ds (fun _ => True) M'
  | _ => False) Ex
theorem di_tup {kb : Nat} (B : Bd G kb X W) (h : DE G X W e we) : DI G X W tg e (wiT we) := by
  obtain ⟨t, p, q⟩ := h.ex
  refine ⟨_, pi_tup p, fun F σ H ρ M Q Ex R ok l c h0 => q F σ H ρ M _ Ex _ ok l (fun v H' d M' F' e ok' r h1 => ?_) h0⟩
  rw [B.eK]
  try dsimp only at h1
  split at h1
  · next ds =>
    cases r with
    | tup hs hr =>
      rename_i a xs
      refine ⟨a, rfl, ⟨xs, sqT_mono ok'.same hs⟩, c _ ds _ H' M' F' e ok' (fun i F2 σ2 H2 ρ2 M2 e2 ok2 _ => ⟨fun hi => ?_, fun hi => ⟨xs, sqT_mono ok2.same (sqT_mono e2 hs), by rw [hr.length]; exact hi⟩⟩) trivial h1⟩
      obtain ⟨d, hd⟩ : ∃ d, ds[i]? = some d := ⟨_, List.getElem?_eq_getElem hi⟩
      obtain ⟨x, hx, rx⟩ := hr.get hd
      have sq := sqT_mono ok2.same (sqT_mono e2 hs)
      refine ⟨⟨xs, x, sq, hx⟩, fun y H3 hy => ⟨F2, d, Same.refl F2, ?_, hd, ?_⟩⟩
      · rw [hy.1]; exact fun _ _ _ k => k
      · have := (hy.2 xs sq).symm.trans hx; cases this; exact rx.mono e2
  · exact h1.elim
/-- lo, lo + 1, .. -/
def intsD (lo : Int) (n : Nat) : List D := (List.range n).map fun (i : Nat) => D.int (lo + (i : Int))
theorem intsD_len {lo : Int} {n : Nat} : (intsD lo n).length = n := by simp [intsD]
theorem itr_ok {lo : Int} {n : Nat} {F : Hp} : ItD G (Itr lo n) F (fun _ => True) (intsD lo n) := by
  intro i F2 σ H ρ M e ok _
  rw [intsD_len]
  refine ⟨fun hi => ⟨hi, fun x H' hy => ⟨F2, .int (lo + i), Same.refl F2, ?_, ?_, ?_⟩⟩, fun hi => hi⟩
  · rw [hy.1]; exact fun _ _ _ k => k
  · simp [intsD, hi]
  · rw [hy.2]; exact .int _
def wiR1 (w : DWA) : DWI := fun ρ M Q Ex => w ρ M (fun ds M' => match ds with
  | [.int j] => (-(2 ^ 62) ≤ j ∧ j < 2 ^ 62) ∧ Q (intsD 0 j.toNat) (fun _ => True) M'
  | _ => False) Ex
def wiR2 (w : DWA) : DWI := fun ρ M Q Ex => w ρ M (fun ds M' => match ds with
  | [.int i, .int j] => (-(2 ^ 62) ≤ i ∧ i < 2 ^ 62 ∧ -(2 ^ 62) ≤ j ∧ j < 2 ^ 62) ∧ Q (intsD i (j - i).toNat) (fun _ => True) M'
  | _ => False) Ex
theorem di_range1 {kb : Nat} (B : Bd G kb X W) {w : DWA} {p pos : Pos} (hg : Gl X "range") (hm : G.mg "range" = none) (h : DA G X W [a] w) (hs : starEach [a] X.env = [(false, eval a X.env)] := by rfl) : DI G X W tg (.Call (.Name "range" p) [a] [] pos) (wiR1 w) := by
  obtain ⟨t, pp, q⟩ := h.ex
  refine ⟨_, pi_range1 hg (by rw [B.emg]; exact hm) pp hs, fun F σ H ρ M Q Ex R ok l c h0 => q F σ H ρ M _ Ex _ ok l (fun v H' d M' F' e ok' r h1 => ?_) h0⟩
  try dsimp only at h1
  split at h1
  · next j =>
    cases r with | cons r1 r2 => cases r2; cases r1; exact ⟨j, rfl, h1.1.1, h1.1.2, c _ _ _ H' M' F' e ok' itr_ok trivial h1.2⟩
  · exact h1.elim
theorem di_range2 {kb : Nat} (B : Bd G kb X W) {w : DWA} {p pos : Pos} (hg : Gl X "range") (hm : G.mg "range" = none) (h : DA G X W [a, b] w) (hs : starEach [a, b] X.env = [(false, eval a X.env), (false, eval b X.env)] := by rfl) (hs2 : starEach [b] X.env = [(false, eval b X.env)] := by rfl) : DI G X W tg (.Call (.Name "range" p) [a, b] [] pos) (wiR2 w) := by
  obtain ⟨t, pp, q⟩ := h.ex
  refine ⟨_, pi_range2 hg (by rw [B.emg]; exact hm) pp hs hs2, fun F σ H ρ M Q Ex R ok l c h0 => q F σ H ρ M _ Ex _ ok l (fun v H' d M' F' e ok' r h1 => ?_) h0⟩
  try dsimp only at h1
  split at h1
  · next i j =>
    cases r with | cons r1 r2 => cases r2 with | cons r2 r3 => cases r3; cases r1; cases r2; exact ⟨i, j, rfl, h1.1, c _ _ _ H' M' F' e ok' itr_ok trivial h1.2⟩
  · exact h1.elim

/-! ### for -/
def forL (g : Mem → Prop) (bind : DWG) (body : DWS) (k : DK) : List D → Env' → Mem → Prop
  | [], ρ, M => g M ∧ k.nx ρ M
  | d :: ds, ρ, M => g M ∧ bind d ρ M (fun ρ' M' => body { k with nx := forL g bind body k ds, ct := forL g bind body k ds, bk := k.nx } ρ' M')
def sFor (wi : DWI) (bind : DWG) (body : DWS) : DWS := fun k ρ M => wi ρ M (fun ds g M' => forL g bind body k ds ρ M') k.ex
theorem ds_for {kb : Nat} (B : Bd G kb X W) {wi : DWI} {bind : DWG} {own : List Nat} (hi : DI G X W tg iter wi) (hg : DG G X tg own bind) (hb : DSs G X W body wbd) (hs : ∀ x, foldedSetIterable iter X.env x = pure x := by intro _; rfl) : DS G X W (.For tg iter body [] pos) (sFor wi bind wbd) := by
  obtain ⟨ti, pi, qi⟩ := hi.ex
  obtain ⟨tg', pg, qg⟩ := hg.ex
  obtain ⟨tb, pb, qb⟩ := hb.ex
  refine ⟨_, ps_for B.po B.calm pi pg pb hs, fun F σ H ρ M k D ok l en h0 => qi F σ H ρ M _ _ _ ok l (fun J ds g H1 M1 F1 e1 ok1 it hg h1 => ?_) h0⟩
  refine ⟨fun i m σ H => m = ds.length - i ∧ i ≤ ds.length ∧ ∃ F2 ρ M, Same F1 F2 ∧ Ok G F2 σ H ρ M ∧ forL g bind wbd k (ds.drop i) ρ M, ⟨ds.length, by simp, Nat.zero_le _, F1, ρ, M1, Same.refl F1, ok1, h1⟩, ?_⟩
  rintro i m σ H ⟨rfl, hi, F2, ρ, M, e2, ok2, h2⟩
  by_cases hlt : i < ds.length
  · rw [List.drop_eq_getElem_cons hlt] at h2
    obtain ⟨hg2, h2⟩ := h2
    obtain ⟨go, yl⟩ := (it i F2 σ H ρ M e2 ok2 hg2).1 hlt
    refine .inr ⟨go, fun σ' H' => ∃ F3 ρ M, Same F1 F3 ∧ Ok G F3 σ' H' ρ M ∧ forL g bind wbd k (ds.drop (i + 1)) ρ M, fun σ' H' hN => ⟨ds.length - (i + 1), by omega, rfl, hlt, hN⟩, fun x H' hy => ?_⟩
    obtain ⟨F3, d, e3, ok3, hd, rd⟩ := yl x H' hy
    have ed : ds[i] = d := Option.some.inj ((List.getElem?_eq_getElem hlt).symm.trans hd)
    subst ed
    refine qg F3 σ H' ρ M x _ _ _ (ok3 _ _ _ ok2) rd (fun σ4 H4 ρ4 M4 F4 _ e4 ok4 h4 => ?_) h2
    have e34 : Same F1 F4 := (e2.trans e3).trans e4
    have e04 : Same F F4 := e1.trans e34
    exact qb F4 σ4 H4 ρ4 M4 { k with nx := forL g bind wbd k (ds.drop (i + 1)), ct := forL g bind wbd k (ds.drop (i + 1)), bk := k.nx } _ ok4 (l.mono e04) ⟨fun σ5 H5 ρ5 M5 F5 e5 ok5 h5 => ⟨F5, ρ5, M5, e34.trans e5, ok5, h5⟩, fun σ5 H5 ρ5 M5 F5 e5 ok5 h5 => en.nx σ5 H5 ρ5 M5 F5 (e04.trans e5) ok5 h5,
      fun σ5 H5 ρ5 M5 F5 e5 ok5 h5 => ⟨F5, ρ5, M5, e34.trans e5, ok5, h5⟩, (en.mono e04).rt⟩ h4
  · have e : i = ds.length := by omega
    subst e
    rw [List.drop_length] at h2
    exact .inl ⟨(it _ F2 σ H ρ M e2 ok2 h2.1).2 (Nat.le_refl _), en.nx σ H ρ M F2 (e1.trans e2) ok2 h2.2⟩
end
end DL
namespace DL
open PySem PySem.Spec L2
section
variable {G : Gx} {X : Cx} {W : WX} {a b c e o tg iter elt : Expr} {es rest ifs : List Expr} {pos p2 : Pos} {wa wb wc we wo : DW} {wA wB : DWT} {j : Nat} {st : Stmt} {sts body els : List Stmt} {ws ws' wbd : DWS}

/-! ### enumerate, zip -/
def enumD : Nat → List D → List D
  | _, [] => []
  | i, d :: ds => .tup [.int (i : Int), d] :: enumD (i + 1) ds
theorem enumD_len : ∀ (ds : List D) (i : Nat), (enumD i ds).length = ds.length
  | [], _ => rfl
  | _ :: ds, i => by simp [enumD, enumD_len ds]
theorem enumD_get : ∀ (ds : List D) (k i : Nat) (d : D), ds[i]? = some d → (enumD k ds)[i]? = some (.tup [.int ((k + i : Nat) : Int), d])
  | [], _, _, _, h => by simp at h
  | d :: ds, k, 0, x, h => by simp at h; subst h; simp [enumD]
  | d :: ds, k, i + 1, x, h => by
    have := enumD_get ds (k + 1) i x (by simpa using h)
    simp only [enumD, List.getElem?_cons_succ, this]
    congr 4
    omega
def wiE (w : DWA) : DWI := fun ρ M Q Ex => w ρ M (fun ds M' => match ds with
  | [x] => (match x with
    | .lst xs => Q (enumD 0 xs) (fun _ => True) M'
    | _ => False)
  | _ => False) Ex
theorem di_enum {kb : Nat} (B : Bd G kb X W) {w : DWA} {p pos tpos : Pos} {elts : List Expr} {kk : Nat} (hg : Gl X "enumerate") (hm : G.mg "enumerate" = none) (h : DA G X W [e] w) (hs : starEach [e] X.env = [(false, eval e X.env)] := by rfl) :
    DI G X W (.Tuple elts kk tpos) (.Call (.Name "enumerate" p) [e] [] pos) (wiE w) := by
  obtain ⟨t, pp, q⟩ := h.ex
  refine ⟨_, pi_enum hg (by rw [B.emg]; exact hm) pp hs, fun F σ H ρ M Q Ex R ok l c h0 => q F σ H ρ M _ Ex _ ok l (fun v H' d M' F' e ok' r h1 => ?_) h0⟩
  rw [B.eK]
  try dsimp only at h1
  split at h1
  · next x =>
    split at h1
    · next ds =>
      cases r with
      | cons r1 r2 =>
        cases r2
        cases r1 with
        | lst hs hr =>
          rename_i a xs
          refine ⟨a, xs, rfl, ok'.same.seq hs, c _ (enumD 0 ds) _ H' M' F' e ok' (fun i F2 σ2 H2 ρ2 M2 e2 ok2 _ => ⟨fun hi => ?_, fun hi => ⟨xs, ok2.same.seq (e2.seq hs), by rw [hr.length]; rw [enumD_len] at hi; exact hi⟩⟩) trivial h1⟩
          rw [enumD_len] at hi
          obtain ⟨d, hd⟩ : ∃ d, ds[i]? = some d := ⟨_, List.getElem?_eq_getElem hi⟩
          obtain ⟨x, hx, rx⟩ := hr.get hd
          have sq := ok2.same.seq (e2.seq hs)
          refine ⟨⟨xs, x, sq, hx⟩, fun y H3 hy => ?_⟩
          obtain ⟨T, x', rfl, hT, rfl, f⟩ := hy
          have ex := (f xs sq).symm.trans hx
          cases ex
          have hF : F2 T = none := ok2.same.free hT
          refine ⟨upd F2 T (.tup [.int (i : Nat), x]), .tup [.int (i : Nat), d], same_new hF, fun _ _ _ k => (k.fro hT).1, ?_, ?_⟩
          · have := enumD_get ds 0 i d hd
            rw [Nat.zero_add] at this
            exact this
          · exact .tup (.inl (.inl upd_same)) (.cons (.int _) (.cons ((rx.mono e2).mono (same_new hF)) .nil))
    · exact h1.elim
  · exact h1.elim
def zipD : List D → List D → List D
  | a :: as, b :: bs => .tup [a, b] :: zipD as bs
  | _, _ => []
theorem zipD_len : ∀ (as bs : List D), (zipD as bs).length = min as.length bs.length
  | [], _ => by simp [zipD]
  | _ :: _, [] => by simp [zipD]
  | a :: as, b :: bs => by simp [zipD, zipD_len as bs]
theorem zipD_get : ∀ (as bs : List D) (i : Nat) (a b : D), as[i]? = some a → bs[i]? = some b → (zipD as bs)[i]? = some (.tup [a, b])
  | [], _, _, _, _, h, _ => by simp at h
  | _ :: _, [], _, _, _, _, h => by simp at h
  | a :: as, b :: bs, 0, x, y, h, h' => by simp at h h'; subst h h'; simp [zipD]
  | a :: as, b :: bs, i + 1, x, y, h, h' => by simp only [zipD, List.getElem?_cons_succ]; exact zipD_get as bs i x y (by simpa using h) (by simpa using h')
def wiZ (w : DWA) : DWI := fun ρ M Q Ex => w ρ M (fun ds M' => match ds with
  | [.lst xs, .lst ys] => Q (zipD xs ys) (fun _ => True) M'
  | [.tup xs, .tup ys] => Q (zipD xs ys) (fun _ => True) M'
  | _ => False) Ex
theorem di_zip {kb : Nat} (B : Bd G kb X W) {w : DWA} {p pos tpos : Pos} {elts : List Expr} {kk : Nat} (hg : Gl X "zip") (hm : G.mg "zip" = none) (h : DA G X W [a, b] w)
    (hs : starEach [a, b] X.env = (false, eval a X.env) :: starEach [b] X.env := by rfl) (hpl : (backTo pos (starEach [b] X.env)).any (·.1) = false := by rfl) :
    DI G X W (.Tuple elts kk tpos) (.Call (.Name "zip" p) [a, b] [] pos) (wiZ w) := by
  obtain ⟨t, pp, q⟩ := h.ex
  refine ⟨_, RZ.pi_zipA hg (by rw [B.emg]; exact hm) pp hs hpl, fun F σ H ρ M Q Ex R ok l c h0 => q F σ H ρ M _ Ex _ ok l (fun v H' d M' F' e ok' r h1 => ?_) h0⟩
  rw [B.eK]
  try dsimp only at h1
  split at h1
  · next ds es =>
    cases r with
    | cons r1 r2 =>
      cases r2 with
      | cons r2 r3 =>
        cases r3
        cases r1 with
        | lst hs hr =>
          cases r2 with
          | lst hs' hr' =>
            rename_i a xs b ys
            refine ⟨a, b, xs, ys, rfl, .inl ⟨ok'.same.seq hs, ok'.same.seq hs', c _ (zipD ds es) _ H' M' F' e ok' (fun i F2 σ2 H2 ρ2 M2 e2 ok2 _ => ?_) trivial h1⟩⟩
            have sq := ok2.same.seq (e2.seq hs)
            have sq' := ok2.same.seq (e2.seq hs')
            rw [zipD_len]
            refine ⟨fun hi => ?_, fun hi => ⟨xs, ys, sq, sq', by rw [hr.length, hr'.length]; omega⟩⟩
            obtain ⟨d, hd⟩ : ∃ d, ds[i]? = some d := ⟨_, List.getElem?_eq_getElem (by omega)⟩
            obtain ⟨d', hd'⟩ : ∃ d, es[i]? = some d := ⟨_, List.getElem?_eq_getElem (by omega)⟩
            obtain ⟨x, hx, rx⟩ := hr.get hd
            obtain ⟨x', hx', rx'⟩ := hr'.get hd'
            refine ⟨⟨xs, ys, x, x', sq, sq', hx, hx'⟩, fun y H3 hy => ?_⟩
            obtain ⟨T, y1, y2, rfl, hT, rfl, f, f'⟩ := hy
            have ex := (f xs sq).symm.trans hx
            have ex' := (f' ys sq').symm.trans hx'
            cases ex; cases ex'
            have hF : F2 T = none := ok2.same.free hT
            exact ⟨upd F2 T (.tup [x, x']), _, same_new hF, fun _ _ _ k => (k.fro hT).1, zipD_get _ _ _ _ _ hd hd', .tup (.inl (.inl upd_same)) (.cons ((rx.mono e2).mono (same_new hF)) (.cons ((rx'.mono e2).mono (same_new hF)) .nil))⟩
  · next ds es =>
    cases r with
    | cons r1 r2 =>
      cases r2 with
      | cons r2 r3 =>
        cases r3
        cases r1 with
        | tup hs hr =>
          cases r2 with
          | tup hs' hr' =>
            rename_i a xs b ys
            refine ⟨a, b, xs, ys, rfl, .inr ⟨sqT_mono ok'.same hs, sqT_mono ok'.same hs', c _ (zipD ds es) _ H' M' F' e ok' (fun i F2 σ2 H2 ρ2 M2 e2 ok2 _ => ?_) trivial h1⟩⟩
            have sq := sqT_mono ok2.same (sqT_mono e2 hs)
            have sq' := sqT_mono ok2.same (sqT_mono e2 hs')
            rw [zipD_len]
            refine ⟨fun hi => ?_, fun hi => ⟨xs, ys, sq, sq', by rw [hr.length, hr'.length]; omega⟩⟩
            obtain ⟨d, hd⟩ : ∃ d, ds[i]? = some d := ⟨_, List.getElem?_eq_getElem (by omega)⟩
            obtain ⟨d', hd'⟩ : ∃ d, es[i]? = some d := ⟨_, List.getElem?_eq_getElem (by omega)⟩
            obtain ⟨x, hx, rx⟩ := hr.get hd
            obtain ⟨x', hx', rx'⟩ := hr'.get hd'
            refine ⟨⟨xs, ys, x, x', sq, sq', hx, hx'⟩, fun y H3 hy => ?_⟩
            obtain ⟨T, y1, y2, rfl, hT, rfl, f, f'⟩ := hy
            have ex := (f xs sq).symm.trans hx
            have ex' := (f' ys sq').symm.trans hx'
            cases ex; cases ex'
            have hF : F2 T = none := ok2.same.free hT
            exact ⟨upd F2 T (.tup [x, x']), _, same_new hF, fun _ _ _ k => (k.fro hT).1, zipD_get _ _ _ _ _ hd hd', .tup (.inl (.inl upd_same)) (.cons ((rx.mono e2).mono (same_new hF)) (.cons ((rx'.mono e2).mono (same_new hF)) .nil))⟩
  · exact h1.elim

/-! ### comprehensions -/
/-- the block of a comprehension -/
structure Bk (G : Gx) (k : Nat) (X : Cx) : Prop where
  bd : Bd G k X (fun _ _ _ _ => False)
theorem Bd.blk {k : Nat} (B : Bd G k X W) {s : Shared} {H : Hp} {scope : Scope} {cenv : Env} {fp : List Addr} : Bd G k (X.blk s H scope cenv fp) (fun _ _ _ _ => False) :=
  ⟨B.eP, B.ew, B.eK, B.emg, B.eb, B.nd, B.rm, B.calm, takes0, PassesOwn.never⟩
structure DTs (G : Gx) (X : Cx) (W : WX) (es : List Expr) (w : DWT) : Prop where
  ex : ∃ t, PTs X es t ∧ RdT G W t w
def wYes : DWT := fun _ M Q _ => Q true M
theorem dts_nil : DTs G X W [] wYes := ⟨_, pts_nil, fun F σ H ρ M Q Ex Qv k l c h => c true H M F (Same.refl F) k h⟩
theorem dts_one (h : DT G X W c wA) : DTs G X W [c] wA := by
  obtain ⟨t, p, q⟩ := h.ex
  exact ⟨_, pts_one p, q⟩
def wipeD (ρ : Env') : List Nat → Env'
  | [] => ρ
  | v :: vs => (wipeD ρ vs).set v none
def noX : QX := fun _ _ _ => False
/-- the rest of a comprehension's turns: what it makes stands at p -/
def compL (p : Addr) (g : Mem → Prop) (bind : DWG) (test : DWT) (elt : DW) (ρ : Env') (Q : Mem → Prop) : List D → Mem → Prop
  | [], M => g M ∧ Q M
  | d :: ds, M => g M ∧ bind d ρ M (fun ρ' M' => test ρ' M' (fun b M2 => if b = true then elt ρ' M2 (fun y M3 => ∃ acc, M3 p = some (.lst acc) ∧ acc.length < sizeLine ∧ compL p g bind test elt ρ Q ds (M3.set p (.lst (acc ++ [y])))) noX
      else compL p g bind test elt ρ Q ds M2) noX)
/-- an owned list -/
def wLcO (wi : DWI) (bind : DWG) (test : DWT) (elt : DW) (vs : List Nat) : DW := fun ρ M Q Ex => wi ρ M (fun ds g M1 => ∀ p, M1 p = none → compL p g bind test elt (wipeD ρ vs) (fun M2 => Q (.ptr p) M2) ds (M1.set p (.lst []))) Ex
/-- a frozen list -/
def wLc (wi : DWI) (bind : DWG) (test : DWT) (elt : DW) (vs : List Nat) : DW := fun ρ M Q Ex => wi ρ M (fun ds g M1 => ∀ p, M1 p = none → compL p g bind test elt (wipeD ρ vs) (fun M2 => ∃ xs, M2 p = some (.lst xs) ∧ Q (.lst xs) (M2.del p)) ds (M1.set p (.lst []))) Ex
theorem RfE.wipe {F : Hp} {σ : St} {ρ : Env'} (h : RfE G F σ ρ) : ∀ vs : List Nat, RfE G F (wipe σ vs) (wipeD ρ vs)
  | [] => h
  | v :: vs => (RfE.wipe h vs).set v .no
/-- the walk of a comprehension, for any end -/
theorem rdLc {wi : DWI} {bind : DWG} {wit : TI} {g : TG} {tt : TT} {te : TE} {own : List Nat} {test : DWT} {welt : DW} {own2 : List Nat}
    (qi : ∀ (F : Hp) (σ : St) (H : Hp) (ρ : Env') (M : Mem) (Q : List D → (Mem → Prop) → Mem → Prop) (Ex : QX) (R : It → Hp → Prop), Ok G F σ H ρ M → ExL G W F Ex →
      (∀ J ds g H' M' F', Same F F' → Ok G F' σ H' ρ M' → ItD G J F' g ds → g M' → Q ds g M' → R J H') → wi ρ M Q Ex → wit σ H R)
    (qg : ∀ (F : Hp) (σ : St) (H : Hp) (ρ : Env') (M : Mem) (v : V) (d : D) (Q : Env' → Mem → Prop) (Qv : St → Hp → Prop), Ok G F σ H ρ M → Rf G F v d →
      (∀ σ' H' ρ' M' F', (∀ vs : List Nat, (∀ i ∈ own2, i ∈ vs) → L2.wipe σ' vs = L2.wipe σ vs) → Same F F' → Ok G F' σ' H' ρ' M' → Q ρ' M' → Qv σ' H') → bind d ρ M Q → g v σ H Qv)
    (qt : RdT G (fun _ _ _ _ => False) tt test) (qe : RdE G (fun _ _ _ _ => False) te welt) (ho : ∀ i ∈ own2, i ∈ own)
    (F : Hp) (σ : St) (H : Hp) (ρ : Env') (M : Mem) (Ex : QX) (Qv : VK) (Q : Addr → Mem → Prop) (ok : Ok G F σ H ρ M) (l : ExL G W F Ex)
    (c : ∀ p H' M' F', Same F F' → Ok G F' σ H' ρ M' → Q p M' → Qv (.ref p) H')
    (h : wi ρ M (fun ds g M1 => ∀ p, M1 p = none → compL p g bind test welt (wipeD ρ own) (Q p) ds (M1.set p (.lst []))) Ex) : tLc wit g tt te own σ H Qv := by
  have lx : ∀ F, ExL G (fun _ _ _ _ => False) F noX := fun F cls d σ H x ρ M F' e k a q => q.elim
  refine qi F σ H ρ M _ Ex _ ok l (fun J ds gd H1 M1 F1 e1 ok1 it hg h1 => fun p hp => ?_) h
  have h2 := h1 p (ok1.mem.fresh hp)
  have okp : Ok G F1 σ (upd H1 p (.lst [])) ρ (M1.set p (.lst [])) := ok1.ownL .nil hp
  refine ⟨fun i m H => m = ds.length - i ∧ i ≤ ds.length ∧ ∃ F2 M, Same F1 F2 ∧ Ok G F2 σ H ρ M ∧ compL p gd bind test welt (wipeD ρ own) (Q p) (ds.drop i) M, ⟨ds.length, by simp, Nat.zero_le _, F1, _, Same.refl F1, okp, h2⟩, ?_⟩
  rintro i m H ⟨rfl, hi, F2, M, e2, ok2, h2⟩
  by_cases hlt : i < ds.length
  · rw [List.drop_eq_getElem_cons hlt] at h2
    obtain ⟨hg2, h2⟩ := h2
    obtain ⟨go, yl⟩ := (it i F2 σ H ρ M e2 ok2 hg2).1 hlt
    refine .inr ⟨go, fun H' => ∃ F3 M, Same F1 F3 ∧ Ok G F3 σ H' ρ M ∧ compL p gd bind test welt (wipeD ρ own) (Q p) (ds.drop (i + 1)) M, fun H' hN => ⟨ds.length - (i + 1), by omega, rfl, hlt, hN⟩, fun x H' hy => ?_⟩
    obtain ⟨F3, d, e3, ok3, hd, rd⟩ := yl x H' hy
    have ed : ds[i] = d := Option.some.inj ((List.getElem?_eq_getElem hlt).symm.trans hd)
    subst ed
    have ok3' := ok3 _ _ _ ok2
    have okw : Ok G F3 (L2.wipe σ own) H' (wipeD ρ own) M := ⟨ok3'.same, ok3'.env.wipe own, ok3'.mem⟩
    refine qg F3 _ H' _ M x _ _ _ okw rd (fun σ4 H4 ρ4 M4 F4 hw e4 ok4 h4 => ⟨?_, ?_⟩) h2
    · rw [hw own ho]
      have idem : ∀ (σ : St) (vs : List Nat), (∀ i ∈ vs, (L2.wipe σ own)[i]? = some none ∨ (L2.wipe σ own)[i]? = none) → L2.wipe (L2.wipe σ own) vs = L2.wipe σ own := by
        intro σ vs
        induction vs with
        | nil => intro _; rfl
        | cons v vs ih =>
          intro hv
          show (L2.wipe (L2.wipe σ own) vs).set v none = _
          rw [ih fun i hi => hv i (List.mem_cons_of_mem _ hi)]
          rcases hv v List.mem_cons_self with z | z
          · apply List.ext_getElem?
            intro k
            by_cases hk : k = v
            · subst hk; rw [z, List.getElem?_set_self]; exact (List.getElem?_eq_some_iff.mp z).1
            · rw [List.getElem?_set_ne (Ne.symm hk)]
          · exact List.set_eq_of_length_le (List.getElem?_eq_none_iff.mp z)
      have key : ∀ (vs : List Nat) (σ : St), ∀ i ∈ vs, (L2.wipe σ vs)[i]? = some none ∨ (L2.wipe σ vs)[i]? = none := by
        intro vs
        induction vs with
        | nil => intro σ i hi; cases hi
        | cons v vs ih =>
          intro σ i hi
          show ((L2.wipe σ vs).set v none)[i]? = some none ∨ ((L2.wipe σ vs).set v none)[i]? = none
          by_cases hk : i = v
          · subst hk
            rw [List.getElem?_set]
            simp only [if_true]
            by_cases hl : i < (L2.wipe σ vs).length
            · rw [if_pos hl]; exact .inl rfl
            · rw [if_neg hl]; exact .inr rfl
          · rw [List.getElem?_set_ne (Ne.symm hk)]
            exact ih σ i ((List.mem_cons.mp hi).resolve_left hk)
      exact idem σ own (key own σ)
    · have back : ∀ {σ4 : St} {H5 : Hp} {ρ4 : Env'} {M5 : Mem} {F5 : Hp}, Same F3 F5 → Ok G F5 σ4 H5 ρ4 M5 → Ok G F5 σ H5 ρ M5 := fun {σ4 H5 ρ4 M5 F5} e5 k5 => ⟨k5.same, ok3'.env.mono e5, k5.mem⟩
      refine qt F4 σ4 H4 ρ4 M4 _ _ _ ok4 (lx F4) (fun b H5 M5 F5 e5 ok5 h5 => ?_) h4
      have e25 : Same F1 F5 := ((e2.trans e3).trans e4).trans e5
      cases b with
      | false => exact ⟨F5, M5, e25, back (e4.trans e5) ok5, h5⟩
      | true =>
        refine qe F5 σ4 H5 ρ4 M5 _ _ _ ok5 (lx F5) (fun y H6 yd M6 F6 e6 ok6 r6 h6 => ?_) h5
        obtain ⟨acc, ha, hz, h6⟩ := h6
        obtain ⟨_, xs, hx, rx⟩ := ok6.mem p _ ha
        refine ⟨xs, hx, by rw [rx.length]; exact hz, F6, _, e25.trans e6, back ((e4.trans e5).trans e6) (ok6.chg (c' := .lst (acc ++ [yd])) ha ⟨xs ++ [y], upd_same, rx.append (.cons r6 .nil)⟩), h6⟩
  · have e : i = ds.length := by omega
    subst e
    rw [List.drop_length] at h2
    exact .inl ⟨(it _ F2 σ H ρ M e2 ok2 h2.1).2 (Nat.le_refl _), c p H M F2 (e1.trans e2) ok2 h2.2⟩

/-! the readings made canonical -/
def tE (G : Gx) (W : WX) (w : DW) : TE := fun σ H Qv => ∃ F ρ M Q Ex, Ok G F σ H ρ M ∧ ExL G W F Ex ∧ (∀ v H' d M' F', Same F F' → Ok G F' σ H' ρ M' → Rf G F' v d → Q d M' → Qv v H') ∧ w ρ M Q Ex
theorem DE.can (h : DE G X W e we) : PE X e (tE G W we) := by
  obtain ⟨t, p, q⟩ := h.ex
  exact ⟨fun pins s σ H Q I ⟨F, ρ, M, Q', Ex, k, l, c, h⟩ => p.run pins s σ H Q I (q F σ H ρ M Q' Ex Q k l c h)⟩
theorem rdE_can : RdE G W (tE G W we) we := fun F σ H ρ M Q Ex Qv k l c h => ⟨F, ρ, M, Q, Ex, k, l, c, h⟩
def tT (G : Gx) (W : WX) (w : DWT) : TT := fun σ H Qv => ∃ F ρ M Q Ex, Ok G F σ H ρ M ∧ ExL G W F Ex ∧ (∀ b H' M' F', Same F F' → Ok G F' σ H' ρ M' → Q b M' → Qv b H') ∧ w ρ M Q Ex
theorem DTs.can (h : DTs G X W ifs wA) : PTs X ifs (tT G W wA) := by
  obtain ⟨t, p, q⟩ := h.ex
  exact ⟨fun pins s σ H Q I ⟨F, ρ, M, Q', Ex, k, l, c, h⟩ => p.run pins s σ H Q I (q F σ H ρ M Q' Ex Q k l c h)⟩
theorem rdT_can : RdT G W (tT G W wA) wA := fun F σ H ρ M Q Ex Qv k l c h => ⟨F, ρ, M, Q, Ex, k, l, c, h⟩
def tG (G : Gx) (own : List Nat) (w : DWG) : TG := fun v σ H Qv => ∃ F ρ M d Q, Ok G F σ H ρ M ∧ Rf G F v d ∧
  (∀ σ' H' ρ' M' F', (∀ vs : List Nat, (∀ i ∈ own, i ∈ vs) → L2.wipe σ' vs = L2.wipe σ vs) → Same F F' → Ok G F' σ' H' ρ' M' → Q ρ' M' → Qv σ' H') ∧ w d ρ M Q
theorem DG.can {own : List Nat} {w : DWG} (h : DG G X tg own w) : PG X tg (tG G own w) := by
  obtain ⟨t, p, q⟩ := h.ex
  exact ⟨fun pins s σ H v u Q I r ⟨F, ρ, M, d, Q', k, r', c, h⟩ => p.run pins s σ H v u Q I r (q F σ H ρ M v d Q' Q k r' c h)⟩
theorem de_lc {kb : Nat} (B : Bd G kb X W) {scope : Scope} {own : List (Str × Nat)} {own2 : List Nat} {wi : DWI} {bind : DWG} {test : DWT} {welt : DW} (hi : DI G X W tg iter wi) (ok : blkC X.N X.env.scope scope own = true) (ho : ∀ i ∈ own2, i ∈ own.map (·.2))
    (hg : ∀ X', Bd G kb X' (fun _ _ _ _ => False) → X'.N = X.N → X'.env.scope = relS scope X.env.scope → DG G X' tg own2 bind) (ht : ∀ X', Bd G kb X' (fun _ _ _ _ => False) → X'.N = X.N → X'.env.scope = relS scope X.env.scope → DTs G X' (fun _ _ _ _ => False) ifs test)
    (he : ∀ X', Bd G kb X' (fun _ _ _ _ => False) → X'.N = X.N → X'.env.scope = relS scope X.env.scope → DE G X' (fun _ _ _ _ => False) elt welt) (hs : ∀ x, foldedSetIterable iter X.env x = pure x := by intro _; rfl) :
    DE G X W (.ListComp elt [⟨tg, iter, ifs, 0⟩] scope pos) (wLc wi bind test welt (own.map (·.2))) := by
  obtain ⟨t, p, q⟩ := hi.ex
  refine ⟨_, pe_lc B.calm B.nd p (blkOk_by ok) (fun s H C cl fp => (hg _ B.blk rfl rfl).can) (fun s H C cl fp => (ht _ B.blk rfl rfl).can) (fun s H C cl fp => (he _ B.blk rfl rfl).can) hs, fun F σ H ρ M Q Ex Qv k l c h => ?_⟩
  refine rdLc (own2 := own2) q (fun F σ H ρ M v d Q Qv k r c h => ⟨F, ρ, M, d, Q, k, r, c, h⟩) rdT_can rdE_can ho F σ H ρ M Ex Qv (fun p M2 => ∃ xs, M2 p = some (.lst xs) ∧ Q (.lst xs) (M2.del p)) k l (fun p H' M' F' e k' hq => ?_) h
  obtain ⟨xs, hx, hq⟩ := hq
  obtain ⟨F2, e2, k2, r2⟩ := k'.frz hx
  exact c _ H' _ _ F2 (e.trans e2) k2 r2 hq
theorem de_lcO {kb : Nat} (B : Bd G kb X W) {scope : Scope} {own : List (Str × Nat)} {own2 : List Nat} {wi : DWI} {bind : DWG} {test : DWT} {welt : DW} (hi : DI G X W tg iter wi) (ok : blkC X.N X.env.scope scope own = true) (ho : ∀ i ∈ own2, i ∈ own.map (·.2))
    (hg : ∀ X', Bd G kb X' (fun _ _ _ _ => False) → X'.N = X.N → X'.env.scope = relS scope X.env.scope → DG G X' tg own2 bind) (ht : ∀ X', Bd G kb X' (fun _ _ _ _ => False) → X'.N = X.N → X'.env.scope = relS scope X.env.scope → DTs G X' (fun _ _ _ _ => False) ifs test)
    (he : ∀ X', Bd G kb X' (fun _ _ _ _ => False) → X'.N = X.N → X'.env.scope = relS scope X.env.scope → DE G X' (fun _ _ _ _ => False) elt welt) (hs : ∀ x, foldedSetIterable iter X.env x = pure x := by intro _; rfl) :
    DE G X W (.ListComp elt [⟨tg, iter, ifs, 0⟩] scope pos) (wLcO wi bind test welt (own.map (·.2))) := by
  obtain ⟨t, p, q⟩ := hi.ex
  refine ⟨_, pe_lc B.calm B.nd p (blkOk_by ok) (fun s H C cl fp => (hg _ B.blk rfl rfl).can) (fun s H C cl fp => (ht _ B.blk rfl rfl).can) (fun s H C cl fp => (he _ B.blk rfl rfl).can) hs, fun F σ H ρ M Q Ex Qv k l c h => ?_⟩
  exact rdLc (own2 := own2) q (fun F σ H ρ M v d Q Qv k r c h => ⟨F, ρ, M, d, Q, k, r, c, h⟩) rdT_can rdE_can ho F σ H ρ M Ex Qv (fun p M2 => Q (.ptr p) M2) k l (fun p H' M' F' e k' hq => c _ H' _ M' F' e k' (.ptr p) hq) h
/-- name = [..], the name a plain local -/
theorem ds_setLc {kb i : Nat} (B : Bd G kb X W) {y : Str} {py spos : Pos} {scope : Scope} {own : List (Str × Nat)} {own2 : List Nat} {wi : DWI} {bind : DWG} {test : DWT} {welt : DW} (hy : X.N[i]? = some y) (hyl : X.env.scope.names.lookup y = some .local)
    (hsw : swapsWith (.ListComp elt [⟨tg, iter, ifs, 0⟩] scope pos) (some (.Name y py)) spos.line X.env = pure true) (hi : DI G X W tg iter wi) (ok : blkC X.N X.env.scope scope own = true) (ho : ∀ i ∈ own2, i ∈ own.map (·.2))
    (hg : ∀ X', Bd G kb X' (fun _ _ _ _ => False) → X'.N = X.N → X'.env.scope = relS scope X.env.scope → DG G X' tg own2 bind) (ht : ∀ X', Bd G kb X' (fun _ _ _ _ => False) → X'.N = X.N → X'.env.scope = relS scope X.env.scope → DTs G X' (fun _ _ _ _ => False) ifs test)
    (he : ∀ X', Bd G kb X' (fun _ _ _ _ => False) → X'.N = X.N → X'.env.scope = relS scope X.env.scope → DE G X' (fun _ _ _ _ => False) elt welt) (hs : ∀ x, foldedSetIterable iter X.env x = pure x := by intro _; rfl) :
    DS G X W (.Assign [.Name y py] (.ListComp elt [⟨tg, iter, ifs, 0⟩] scope pos) spos) (sSet i (wLc wi bind test welt (own.map (·.2)))) := by
  obtain ⟨t, p, q⟩ := hi.ex
  refine ⟨_, ps_setLc B.calm B.nd hy hyl hsw p (blkOk_by ok) (fun s H C cl fp => (hg _ B.blk rfl rfl).can) (fun s H C cl fp => (ht _ B.blk rfl rfl).can) (fun s H C cl fp => (he _ B.blk rfl rfl).can) hs, fun F σ H ρ M k D okk l en h => ?_⟩
  refine rdLc (own2 := own2) q (fun F σ H ρ M v d Q Qv k r c h => ⟨F, ρ, M, d, Q, k, r, c, h⟩) rdT_can rdE_can ho F σ H ρ M k.ex _ (fun p M2 => ∃ xs, M2 p = some (.lst xs) ∧ k.nx (ρ.set i (some (.lst xs))) (M2.del p)) okk l (fun p H' M' F' e k' hq => ?_) h
  obtain ⟨xs, hx, hq⟩ := hq
  obtain ⟨F2, e2, k2, r2⟩ := k'.frz hx
  exact en.nx _ H' _ _ F2 (e.trans e2) (k2.slot i r2) hq
theorem ds_setLcO {kb i : Nat} (B : Bd G kb X W) {y : Str} {py spos : Pos} {scope : Scope} {own : List (Str × Nat)} {own2 : List Nat} {wi : DWI} {bind : DWG} {test : DWT} {welt : DW} (hy : X.N[i]? = some y) (hyl : X.env.scope.names.lookup y = some .local)
    (hsw : swapsWith (.ListComp elt [⟨tg, iter, ifs, 0⟩] scope pos) (some (.Name y py)) spos.line X.env = pure true) (hi : DI G X W tg iter wi) (ok : blkC X.N X.env.scope scope own = true) (ho : ∀ i ∈ own2, i ∈ own.map (·.2))
    (hg : ∀ X', Bd G kb X' (fun _ _ _ _ => False) → X'.N = X.N → X'.env.scope = relS scope X.env.scope → DG G X' tg own2 bind) (ht : ∀ X', Bd G kb X' (fun _ _ _ _ => False) → X'.N = X.N → X'.env.scope = relS scope X.env.scope → DTs G X' (fun _ _ _ _ => False) ifs test)
    (he : ∀ X', Bd G kb X' (fun _ _ _ _ => False) → X'.N = X.N → X'.env.scope = relS scope X.env.scope → DE G X' (fun _ _ _ _ => False) elt welt) (hs : ∀ x, foldedSetIterable iter X.env x = pure x := by intro _; rfl) :
    DS G X W (.Assign [.Name y py] (.ListComp elt [⟨tg, iter, ifs, 0⟩] scope pos) spos) (sSet i (wLcO wi bind test welt (own.map (·.2)))) := by
  obtain ⟨t, p, q⟩ := hi.ex
  refine ⟨_, ps_setLc B.calm B.nd hy hyl hsw p (blkOk_by ok) (fun s H C cl fp => (hg _ B.blk rfl rfl).can) (fun s H C cl fp => (ht _ B.blk rfl rfl).can) (fun s H C cl fp => (he _ B.blk rfl rfl).can) hs, fun F σ H ρ M k D okk l en h => ?_⟩
  exact rdLc (own2 := own2) q (fun F σ H ρ M v d Q Qv k r c h => ⟨F, ρ, M, d, Q, k, r, c, h⟩) rdT_can rdE_can ho F σ H ρ M k.ex _ (fun p M2 => k.nx (ρ.set i (some (.ptr p))) M2) okk l (fun p H' M' F' e k' hq => en.nx _ H' _ M' F' e (k'.slot i (.ptr p)) hq) h
end
end DL
namespace DL
open PySem PySem.Spec L2

/-! ### a def's contract, by data -/
abbrev DSp := List D → Mem → QE → (Exn → Mem → Prop) → Prop
def liftSp (G : Gx) (n : Nat) (sp : DSp) : Sp := fun vs H Q E => ∃ F ds M q ex, ds.length = n ∧ Same F H ∧ RepM G F H M ∧ Rfs G F vs ds ∧ sp ds M q ex ∧
  (∀ v H' d M' F', Same F F' → Same F' H' → RepM G F' H' M' → Rf G F' v d → q d M' → Q v H') ∧
  (∀ cls d H' x M' F', Same F F' → Same F' H' → RepM G F' H' M' → ExnAt G F' H' cls d x → ex x M' → E cls d H')
/-- the def at f keeps the contract sp -/
structure Fd (G : Gx) (k n : Nat) (f : Addr) (sp : DSp) : Prop where
  ex : ∃ fd ps, ps.length = n ∧ FnOk G.P G.w G.K G.mg G.base (L2.CX G.P G.w) k f fd ps (liftSp G n sp) ∧ Binds G.K fd ps []
  kp : PySem.W.keepIn G.K (.ref f) = true
theorem Fd.mono {G : Gx} {k k' n : Nat} {f : Addr} {sp : DSp} (h : Fd G k n f sp) (e : k ≤ k') : Fd G k' n f sp := by
  obtain ⟨⟨fd, ps, h1, h2, h3⟩, kp⟩ := h
  exact ⟨⟨fd, ps, h1, h2.mono e, h3⟩, kp⟩
theorem Fd.imp {G : Gx} {k n : Nat} {f : Addr} {sp sp' : DSp} (h : Fd G k n f sp) (i : ∀ ds M q ex, sp' ds M q ex → sp ds M q ex) : Fd G k n f sp' := by
  obtain ⟨⟨fd, ps, h1, h2, h3⟩, kp⟩ := h
  exact ⟨⟨fd, ps, h1, h2.imp fun vs H Q E ⟨F, ds, M, q, ex, a, b, c, d, e, f⟩ => ⟨F, ds, M, q, ex, a, b, c, d, i _ _ _ _ e, f⟩, h3⟩, kp⟩

section
variable {G : Gx} {X : Cx} {W : WX} {a b c e o tg iter elt : Expr} {es rest ifs : List Expr} {pos p2 : Pos} {wa wb wc we wo : DW} {wA wB : DWT} {j : Nat} {st : Stmt} {sts body els : List Stmt} {ws ws' wbd : DWS}

/-- one call: from the arguments as data -/
theorem call_lift {kb n : Nat} {sp : DSp} (B : Bd G kb X W) {F : Hp} {σ : St} {H : Hp} {ρ : Env'} {M : Mem} {vs : List V} {ds : List D} {Q : QE} {Ex : QX} {Qv : VK} (k : Ok G F σ H ρ M) (l : ExL G W F Ex)
    (c : ∀ v H' d M' F', Same F F' → Ok G F' σ H' ρ M' → Rf G F' v d → Q d M' → Qv v H') (r : Rfs G F vs ds) (hn : ds.length = n) (h : sp ds M Q (fun x M2 => Ex x ρ M2)) : liftSp G n sp vs H Qv (WE W σ) :=
  ⟨F, ds, M, Q, _, hn, k.same, k.mem, r, h, fun v H' d M' F' e s m rv q => c v H' d M' F' e ⟨s, k.env.mono e, m⟩ rv q,
    fun cls d H' x M' F' e s m xa q => l cls d σ H' x ρ M' F' e ⟨s, k.env.mono e, m⟩ xa q⟩
def wCall (n : Nat) (sp : DSp) (w : DWA) : DW := fun ρ M Q Ex => w ρ M (fun ds M' => ds.length = n ∧ sp ds M' Q (fun x M2 => Ex x ρ M2)) Ex
theorem de_call {kb k n : Nat} {f : Addr} {x : Str} {p : Pos} {sp : DSp} {w : DWA} (B : Bd G kb X W) (F : Fd G k n f sp) (hk : k ≤ kb) (g : Gn G X x (.ref f)) (h : DA G X W (e :: es) w)
    (he : starEach (e :: es) X.env = (false, eval e X.env) :: starEach es X.env := by rfl) (hpl : (backTo pos (starEach es X.env)).any (·.1) = false := by rfl) : DE G X W (.Call (.Name x p) (e :: es) [] pos) (wCall n sp w) := by
  obtain ⟨⟨fd, ps, h1, h2, h3⟩, kp⟩ := F
  obtain ⟨t, pp, q⟩ := h.ex
  obtain ⟨P, w', K, mg, base⟩ := G
  obtain ⟨eP, ew, eK, emg, eb, _⟩ := id B
  simp only at eP ew eK emg eb
  subst eP ew eK emg eb
  refine ⟨_, pe_callS (E := WE W) h2 (B.rm.mono hk) g.hg g.hm kp h3 (fun σ => passAt B.tk σ) pp g.hd he hpl, fun F σ H ρ M Q Ex Qv k l c h0 => ?_⟩
  exact q F σ H ρ M _ Ex _ k l (fun vs H1 ds M1 F1 e1 k1 r1 h1 => call_lift B k1 (l.mono e1) (fun v H' d M' F' e' => c v H' d M' F' (e1.trans e')) r1 h1.1 h1.2) h0

/-! ### instances -/
/-- an instance as data: its class, its fields -/
def insD (M : Mem) : D → Option (Addr × List (Str × D))
  | .obj C fs => some (C, fs)
  | .ptr a => match M a with | some (.ins C fs) => some (C, fs) | _ => none
  | _ => none
theorem ins_at {F H : Hp} {σ : St} {ρ : Env'} {M : Mem} {x : V} {d : D} {C : Addr} {ds : List (Str × D)} (k : Ok G F σ H ρ M) (r : Rf G F x d) (h : insD M d = some (C, ds)) : ∃ a dx fs, x = .ref a ∧ H a = some (.ins C dx fs) ∧ RfF G F fs ds := by
  cases d with
  | obj C' fs' =>
    cases h
    cases r with
    | obj h1 h2 => exact ⟨_, _, _, rfl, k.same _ _ h1, h2⟩
  | ptr p =>
    simp only [insD] at h
    split at h
    · next C' fs' e =>
      cases h
      obtain ⟨_, dx, fs, h1, h2⟩ := k.mem p _ e
      cases r
      exact ⟨p, dx, fs, rfl, h1, h2⟩
    · cases h
  | _ => cases h
theorem RfF.lookup {F : Hp} {fs : List (Str × V)} {ds : List (Str × D)} (h : RfF G F fs ds) (f : Str) : (∀ d, ds.lookup f = some d → ∃ v, fs.lookup f = some v ∧ Rf G F v d) ∧ (ds.lookup f = none → fs.lookup f = none) := by
  induction fs generalizing ds with
  | nil => cases h; exact ⟨fun d e => by simp at e, fun _ => rfl⟩
  | cons p fs ih =>
    cases h with
    | cons h r =>
      rename_i k v d ds
      simp only [List.lookup_cons]
      cases e : f == k with
      | true => exact ⟨fun d' e' => by simp at e'; subst e'; exact ⟨v, rfl, h⟩, fun e' => by simp at e'⟩
      | false => exact ih r
theorem RfF.length {F : Hp} {fs : List (Str × V)} {ds : List (Str × D)} (h : RfF G F fs ds) : fs.length = ds.length := by
  induction fs generalizing ds with
  | nil => cases h; rfl
  | cons p fs ih => cases h with | cons h r => simp [ih r]
def putD (f : Str) (v : D) : List (Str × D) → List (Str × D)
  | [] => [(f, v)]
  | (k, u) :: r => if k = f then (k, v) :: r else (k, u) :: putD f v r
theorem putF_cons {f k : Str} {v u : V} {r : List (Str × V)} : putF f v ((k, u) :: r) = if k = f then (k, v) :: r else (k, u) :: putF f v r := rfl
theorem RfF.put {F : Hp} {fs : List (Str × V)} {ds : List (Str × D)} (h : RfF G F fs ds) (f : Str) {v : V} {d : D} (r : Rf G F v d) : RfF G F (putF f v fs) (putD f d ds) := by
  induction fs generalizing ds with
  | nil => cases h; exact .cons r .nil
  | cons p fs ih =>
    cases h with
    | cons h r' =>
      rename_i k v d ds
      rw [putF_cons]
      show RfF G F _ (if k = f then _ else _)
      by_cases e : k = f
      · rw [if_pos e, if_pos e]; exact .cons r r'
      · rw [if_neg e, if_neg e]; exact .cons h (ih r')
/-- e.f -/
def wFld (C : Addr) (f : Str) (w : DW) : DW := fun ρ M Q Ex => w ρ M (fun x M' => match insD M' x with
  | some (C', fs) => C' = C ∧ (match fs.lookup f with | some d => Q d M' | none => False)
  | none => False) Ex
theorem de_fld {kb : Nat} {C : Addr} {f : Str} (B : Bd G kb X W) (cl : Cls G.K C) (na : NoAttr G.K C f) (h : DE G X W e we) (hb : attributeBase e f X.env (eval e X.env) = eval e X.env := by rfl) : DE G X W (.Attribute e f pos) (wFld C f we) := by
  obtain ⟨t, p, q⟩ := h.ex
  refine ⟨_, pe_fld p hb, fun F σ H ρ M Q Ex Qv k l c h0 => q F σ H ρ M _ Ex _ k l (fun v H1 d M1 F1 e1 k1 r1 h1 => ?_) h0⟩
  rw [B.eK]
  try dsimp only at h1
  split at h1
  · next C' fs hi =>
    obtain ⟨rfl, h1⟩ := h1
    split at h1
    · next d' hd =>
      obtain ⟨a, dx, vs, rfl, h2, h3⟩ := ins_at k1 r1 hi
      obtain ⟨v', e2, r2⟩ := (h3.lookup f).1 d' hd
      exact ⟨a, C', dx, vs, v', rfl, h2, cl, na, e2, c v' H1 d' M1 F1 e1 k1 r2 h1⟩
    · exact h1.elim
  · exact h1.elim
/-- o.f = e -/
def sFldD (C : Addr) (f : Str) (wo we : DW) : DWS := fun k ρ M => we ρ M (fun d M1 => wo ρ M1 (fun x M2 => match x with
  | .ptr a => (match M2 a with
    | some (.ins C' fs) => C' = C ∧ fs.length < 1000 ∧ k.nx ρ (M2.set a (.ins C (putD f d fs)))
    | _ => False)
  | _ => False) k.ex) k.ex
theorem ds_fld {kb : Nat} {C : Addr} {f : Str} {p' : Pos} (B : Bd G kb X W) (cl : Cls G.K C) (na : NoAttr G.K C f) (ho : DE G X W o wo) (h : DE G X W e we)
    (hs : swapsWith e (some (.Attribute o f p')) pos.line X.env = pure false := by rfl) : DS G X W (.Assign [.Attribute o f p'] e pos) (sFldD C f wo we) := by
  obtain ⟨t, p, q⟩ := h.ex
  obtain ⟨t', pp, q'⟩ := ho.ex
  refine ⟨_, ps_fld pp p hs, fun F σ H ρ M k D ok l en h0 => q F σ H ρ M _ _ _ ok l (fun v H1 d M1 F1 e1 k1 r1 h1 => q' F1 σ H1 ρ M1 _ _ _ k1 (l.mono e1) (fun x H2 dx M2 F2 e2 k2 r2 h2 => ?_) h1) h0⟩
  rw [B.eK]
  try dsimp only at h2
  split at h2
  · next a =>
    split at h2
    · next C' fs hm =>
      obtain ⟨rfl, hl, h2⟩ := h2
      obtain ⟨_, dd, vs, hH, rr⟩ := k2.mem a _ hm
      cases r2
      refine ⟨a, C', dd, vs, rfl, hH, cl, na, by rw [rr.length]; exact hl, ?_⟩
      exact en.nx _ _ _ _ F2 (e1.trans e2) (k2.chg (c' := .ins C' (putD f d fs)) hm ⟨dd, _, upd_same, rr.put f (r1.mono e2)⟩) h2
    · exact h2.elim
  · exact h2.elim
/-- o.m(..) -/
def wMeth (C : Addr) (m : Str) (n : Nat) (sp : DSp) (wo : DW) (w : DWA) : DW := fun ρ M Q Ex => wo ρ M (fun x M1 => (match insD M1 x with
  | some (C', fs) => C' = C ∧ fs.lookup m = none
  | none => False) ∧ w ρ M1 (fun ds M2 => ds.length + 1 = n ∧ sp (x :: ds) M2 Q (fun x M3 => Ex x ρ M3)) Ex) Ex
def tMethS (C : Addr) (m : Str) (sp : Sp) (E : St → XK) (ta : TE) (t : TA) : TE := fun σ H Q => ta σ H fun x H1 => ∃ a dx fs, x = .ref a ∧ H1 a = some (.ins C dx fs) ∧ fs.lookup m = none ∧ t σ H1 fun vs H2 => sp (x :: vs) H2 Q (E σ)
theorem pe_methS {CX : CXT} {k : Nat} {f C : Addr} {fd : FuncData} {ps : List Str} {sp : Sp} {E : St → XK} {m : Str} {apos : Pos} {ta : TE} {t : TA} {pl : Sem Bool} (he : PE X o ta) (c : Cls X.K C) (hm : Meth X.K C m f) (F : FnOk X.prog X.w X.K X.mg X.base CX k f fd ps sp) (hr : Room k X.A) (hb : Binds X.K fd ps []) (hx : ∀ σ, PassesAt CX X σ (E σ)) (ha : PA X (e :: es) t)
    (hst : starEach (e :: es) X.env = (false, eval e X.env) :: starEach es X.env := by rfl) (hpl : (backTo pos (starEach es X.env)).any (·.1) = false := by rfl)
    (ht : eval (.Call (.Attribute o m apos) (e :: es) [] pos) X.env = (do
      let ov ← eval o X.env
      standAt apos.atName
      let (f, first) ← holding [ov] (getMethod ov m pl)
      callWith pos f first (backTo pos (starEach (e :: es) X.env)) (backToKw pos (keywordEach [] X.env))) := by rfl) :
    PE X (.Call (.Attribute o m apos) (e :: es) [] pos) (tMethS C m sp E ta t) := by
  refine ⟨fun pins s σ H Q I h => ?_⟩
  refine PySem.W.methodCall_KW (pl := pl) (thn (he.run pins s σ H _ I h) fun u s1 ⟨x, H1, I1, rx, a, dx, fs, ex, ea, l, q⟩ => ?_) ht
  subst ex
  obtain rfl : u = Value.ref a := rx
  refine getmeth_ok I1 ea c hm l ?_
  refine PySem.W.callWith_K (first := [.ref a]) (h₀ := X.base) I.ok.mod.kin hm.kp (thn (ha.run pos pins s1 σ H1 _ I1 q) fun us s2 ⟨vs, H2, I2, r, q2⟩ => ⟨I2.kIn, ?_⟩) hst hpl
  exact run_fnS (us := .ref a :: us) (vs := .ref a :: vs) F hr hb (hx σ) I2 (.cons rfl r) q2
theorem pe_methS0 {CX : CXT} {k : Nat} {f C : Addr} {fd : FuncData} {ps : List Str} {sp : Sp} {E : St → XK} {m : Str} {apos : Pos} {ta : TE} {pl : Sem Bool} (he : PE X o ta) (c : Cls X.K C) (hm : Meth X.K C m f) (F : FnOk X.prog X.w X.K X.mg X.base CX k f fd ps sp) (hr : Room k X.A) (hb : Binds X.K fd ps []) (hx : ∀ σ, PassesAt CX X σ (E σ))
    (ht : eval (.Call (.Attribute o m apos) [] [] pos) X.env = (do
      let ov ← eval o X.env
      standAt apos.atName
      let (f, first) ← holding [ov] (getMethod ov m pl)
      callWith pos f first (backTo pos (starEach [] X.env)) (backToKw pos (keywordEach [] X.env))) := by rfl) :
    PE X (.Call (.Attribute o m apos) [] [] pos) (tMethS C m sp E ta tNil) := by
  refine ⟨fun pins s σ H Q I h => ?_⟩
  refine PySem.W.methodCall_KW (pl := pl) (thn (he.run pins s σ H _ I h) fun u s1 ⟨x, H1, I1, rx, a, dx, fs, ex, ea, l, q⟩ => ?_) ht
  subst ex
  obtain rfl : u = Value.ref a := rx
  refine getmeth_ok I1 ea c hm l ?_
  exact PySem.W.callWith_K0 (first := [.ref a]) I1.kIn hm.kp (run_fnS (us := [.ref a]) (vs := [.ref a]) F hr hb (hx σ) I1 (.cons rfl .nil) q)
theorem rdMeth {kb n : Nat} {C : Addr} {m : Str} {sp : DSp} {ta : TE} {t : TA} {w : DWA} (B : Bd G kb X W) (q1 : RdE G W ta wo) (q2 : RdA G W t w) : RdE G W (tMethS C m (liftSp G n sp) (WE W) ta t) (wMeth C m n sp wo w) := fun F σ H ρ M Q Ex Qv k l c h0 =>
  q1 F σ H ρ M _ Ex _ k l (fun v H1 d M1 F1 e1 k1 r1 h1 => by
    obtain ⟨hi, h1⟩ := h1
    split at hi
    · next C' fs hc =>
      obtain ⟨rfl, hl⟩ := hi
      obtain ⟨a, dx, vs, rfl, h2, h3⟩ := ins_at k1 r1 hc
      refine ⟨a, dx, vs, rfl, h2, (h3.lookup m).2 hl, q2 F1 σ H1 ρ M1 _ Ex _ k1 (l.mono e1) (fun us H2 ds M2 F2 e2 k2 r2 h4 => ?_) h1⟩
      exact call_lift B k2 (l.mono (e1.trans e2)) (fun v H' d M' F' e' => c v H' d M' F' ((e1.trans e2).trans e')) (.cons (r1.mono e2) r2) h4.1 h4.2
    · exact hi.elim) h0
theorem de_meth {kb k n : Nat} {f C : Addr} {m : Str} {apos : Pos} {sp : DSp} {w : DWA} {pl : Sem Bool} (B : Bd G kb X W) (cl : Cls G.K C) (hm : Meth G.K C m f) (F : Fd G k n f sp) (hk : k ≤ kb) (ho : DE G X W o wo) (h : DA G X W (e :: es) w)
    (hst : starEach (e :: es) X.env = (false, eval e X.env) :: starEach es X.env := by rfl) (hpl : (backTo pos (starEach es X.env)).any (·.1) = false := by rfl)
    (ht : eval (.Call (.Attribute o m apos) (e :: es) [] pos) X.env = (do
      let ov ← eval o X.env
      standAt apos.atName
      let (f, first) ← holding [ov] (getMethod ov m pl)
      callWith pos f first (backTo pos (starEach (e :: es) X.env)) (backToKw pos (keywordEach [] X.env))) := by rfl) : DE G X W (.Call (.Attribute o m apos) (e :: es) [] pos) (wMeth C m n sp wo w) := by
  obtain ⟨⟨fd, ps, h1, h2, h3⟩, kp⟩ := F
  obtain ⟨t, pp, q⟩ := h.ex
  obtain ⟨to, po, qo⟩ := ho.ex
  obtain ⟨P, w', K, mg, base⟩ := G
  obtain ⟨eP, ew, eK, emg, eb, _⟩ := id B
  simp only at eP ew eK emg eb
  subst eP ew eK emg eb
  exact ⟨_, pe_methS (E := WE W) po cl hm h2 (B.rm.mono hk) h3 (fun σ => passAt B.tk σ) pp hst hpl ht, rdMeth B qo q⟩
theorem de_meth0 {kb k n : Nat} {f C : Addr} {m : Str} {apos : Pos} {sp : DSp} {pl : Sem Bool} (B : Bd G kb X W) (cl : Cls G.K C) (hm : Meth G.K C m f) (F : Fd G k n f sp) (hk : k ≤ kb) (ho : DE G X W o wo)
    (ht : eval (.Call (.Attribute o m apos) [] [] pos) X.env = (do
      let ov ← eval o X.env
      standAt apos.atName
      let (f, first) ← holding [ov] (getMethod ov m pl)
      callWith pos f first (backTo pos (starEach [] X.env)) (backToKw pos (keywordEach [] X.env))) := by rfl) : DE G X W (.Call (.Attribute o m apos) [] [] pos) (wMeth C m n sp wo wNil) := by
  obtain ⟨⟨fd, ps, h1, h2, h3⟩, kp⟩ := F
  obtain ⟨to, po, qo⟩ := ho.ex
  obtain ⟨P, w', K, mg, base⟩ := G
  obtain ⟨eP, ew, eK, emg, eb, _⟩ := id B
  simp only at eP ew eK emg eb
  subst eP ew eK emg eb
  exact ⟨_, pe_methS0 (E := WE W) po cl hm h2 (B.rm.mono hk) h3 (fun σ => passAt B.tk σ) ht, rdMeth B qo (fun F σ H ρ M Q Ex Qv k l c h => c [] H [] M F (Same.refl F) k .nil h)⟩
/-- C(..) -/
def tMakeS (C : Addr) (sp : Sp) (E : St → XK) (t : TA) : TE := fun σ H Q => t σ H fun vs H1 => ∀ x dx, H1 x = none → H1 dx = none → dx ≠ x →
  sp (.ref x :: vs) (upd (upd H1 dx (.own x)) x (.ins C dx [])) (fun v H2 => v = .non ∧ Q (.ref x) H2) (E σ)
theorem run_makeS {CX : CXT} {k : Nat} {f C : Addr} {fd : FuncData} {ps : List Str} {sp : Sp} {E : St → XK} {pins : List (Addr × Obj)} {σ : St} {H : Hp} {s : Shared} {Q : VK} {us : List Value} {vs : List V} (Mk' : Mk X.K C f) (F : FnOk X.prog X.w X.K X.mg X.base CX k f fd ps sp) (hr : Room (k + 1) X.A) (hb : Binds X.K fd ps [])
    (hx : ∀ σ, PassesAt CX X σ (E σ)) (I : Inv X pins σ H s) (r : Vals vs us)
    (h : ∀ x dx, H x = none → H dx = none → dx ≠ x → sp (.ref x :: vs) (upd (upd H dx (.own x)) x (.ins C dx [])) (fun v H2 => v = .non ∧ Q (.ref x) H2) (E σ)) :
    wpAny (model X.prog X.w) X.A (call (.ref C) us) (EP X pins σ Q) X.xe s := by
  have hq := h (s.heap.objs.size + 1) s.heap.objs.size (I.hok.fresh (Nat.le_succ _)) (I.hok.fresh (Nat.le_refl _)) (Nat.ne_of_lt (Nat.lt_succ_self _))
  have I2 := Inv.made (C := C) I
  have r2 : Vals (V.ref (s.heap.objs.size + 1) :: vs) (Value.ref (s.heap.objs.size + 1) :: us) := .cons rfl r
  have hl : (Value.ref (s.heap.objs.size + 1) :: us).length = ps.length := by
    have e := r2.length
    rw [F.len _ _ _ _ hq] at e
    exact e.symm
  have b := hb _ (Value.ref (s.heap.objs.size + 1) :: us) I2.kIn (by rw [List.append_nil]; exact hl)
  rw [List.append_nil] at b
  refine wpAny_call (make_map (f := f) I.kIn Mk'.makes Mk'.init (beq_iff_eq.mp Mk'.fn) (codeAny_mono (F.run _ X.stack _ _ ⟨Value.ref (s.heap.objs.size + 1) :: us, []⟩ (Value.ref (s.heap.objs.size + 1) :: us) _ _ (E σ) (hr.make C us [])
    (I2.env0.make C us []) b r2 hq) fun r s' hq' => ?_))
  cases r with
  | error e => exact hx σ pins _ _ e s' I2 hq'
  | ok fl =>
    cases fl with
    | ret u =>
      obtain ⟨v, H', I3, rv, ev, q3⟩ := I2.after hq'
      subst ev
      exact ⟨rv, ⟨V.ref (s.heap.objs.size + 1), H', I3, rfl, q3⟩⟩
    | next => exact False.elim hq'
    | brk => exact False.elim hq'
    | cont => exact False.elim hq'
theorem pe_makeS {CX : CXT} {k : Nat} {f C : Addr} {fd : FuncData} {ps : List Str} {sp : Sp} {E : St → XK} {x : Str} {p : Pos} {t : TA} (M : Mk X.K C f) (F : FnOk X.prog X.w X.K X.mg X.base CX k f fd ps sp) (hr : Room (k + 1) X.A) (hg : Gl X x) (hm : X.mg x = some (.ref C)) (hb : Binds X.K fd ps []) (hx : ∀ σ, PassesAt CX X σ (E σ))
    (ha : PA X (e :: es) t) (hdb : (x == ("__debug__" : Str)) = false := by decide) (he : starEach (e :: es) X.env = (false, eval e X.env) :: starEach es X.env := by rfl) (hpl : (backTo pos (starEach es X.env)).any (·.1) = false := by rfl) :
    PE X (.Call (.Name x p) (e :: es) [] pos) (tMakeS C sp E t) := by
  refine ⟨fun pins s σ H Q I h => ?_⟩
  refine wpAny_Call_Name_kw (ld_glob I hg hm ?_ hdb)
  refine PySem.W.callWith_K (h₀ := X.base) I.ok.mod.kin M.kp (thn (ha.run pos pins s σ H _ I h) fun us s1 ⟨vs, H1, I1, r, q⟩ => ⟨I1.kIn, ?_⟩) he hpl
  exact run_makeS M F hr hb hx I1 r q
theorem pe_makeS0 {CX : CXT} {k : Nat} {f C : Addr} {fd : FuncData} {ps : List Str} {sp : Sp} {E : St → XK} {x : Str} {p : Pos} (M : Mk X.K C f) (F : FnOk X.prog X.w X.K X.mg X.base CX k f fd ps sp) (hr : Room (k + 1) X.A) (hg : Gl X x) (hm : X.mg x = some (.ref C)) (hb : Binds X.K fd ps []) (hx : ∀ σ, PassesAt CX X σ (E σ))
    (hdb : (x == ("__debug__" : Str)) = false := by decide) : PE X (.Call (.Name x p) [] [] pos) (tMakeS C sp E tNil) := by
  refine ⟨fun pins s σ H Q I h => ?_⟩
  refine wpAny_Call_Name_kw (ld_glob I hg hm ?_ hdb)
  exact PySem.W.callWith_K0 I.kIn M.kp (run_makeS (us := []) M F hr hb hx I .nil h)
theorem Ok.made {F H : Hp} {σ : St} {ρ : Env'} {M : Mem} {C x dx : Addr} (k : Ok G F σ H ρ M) (hx : H x = none) (hd : H dx = none) (hn : dx ≠ x) : Ok G F σ (upd (upd H dx (.own x)) x (.ins C dx [])) ρ (M.set x (.ins C [])) := by
  have k1 : Ok G F σ (upd H dx (.own x)) ρ M := ⟨k.same.trans (same_new hd), k.env, fun a c q => by
    obtain ⟨h1, h2⟩ := k.mem a c q
    obtain ⟨o, z⟩ := h2.there
    exact ⟨h1, h2.at (upd_ne (ne_of_none z hd))⟩⟩
  exact k1.own (by rw [upd_ne hn.symm]; exact hx) ⟨dx, [], upd_same, .nil⟩
/-- the new instance is owned -/
def wMake (C : Addr) (n : Nat) (sp : DSp) (w : DWA) : DW := fun ρ M Q Ex => w ρ M (fun ds M1 => ∀ p, M1 p = none → ds.length + 1 = n ∧ sp (.ptr p :: ds) (M1.set p (.ins C [])) (fun d M2 => d = .non ∧ Q (.ptr p) M2) (fun x M3 => Ex x ρ M3)) Ex
theorem rdMake {kb n : Nat} {C : Addr} {sp : DSp} {t : TA} {w : DWA} (B : Bd G kb X W) (q2 : RdA G W t w) : RdE G W (tMakeS C (liftSp G n sp) (WE W) t) (wMake C n sp w) := fun F σ H ρ M Q Ex Qv k l c h0 =>
  q2 F σ H ρ M _ Ex _ k l (fun us H1 ds M1 F1 e1 k1 r1 h1 => fun x dx hx hd hn => by
    obtain ⟨hln, h1⟩ := h1 x (k1.mem.fresh hx)
    exact call_lift B (k1.made hx hd hn) (l.mono e1) (fun v H' d M' F' e' k' r' q' => by
      obtain ⟨rfl, q'⟩ := q'
      cases r'
      exact ⟨rfl, c _ H' _ M' F' (e1.trans e') k' (.ptr x) q'⟩) (.cons (.ptr x) r1) hln h1) h0
theorem de_make {kb k n : Nat} {f C : Addr} {x : Str} {p : Pos} {sp : DSp} {w : DWA} (B : Bd G kb X W) (M : Mk G.K C f) (F : Fd G k n f sp) (hk : k + 1 ≤ kb) (g : Gn G X x (.ref C)) (h : DA G X W (e :: es) w)
    (he : starEach (e :: es) X.env = (false, eval e X.env) :: starEach es X.env := by rfl) (hpl : (backTo pos (starEach es X.env)).any (·.1) = false := by rfl) : DE G X W (.Call (.Name x p) (e :: es) [] pos) (wMake C n sp w) := by
  obtain ⟨⟨fd, ps, h1, h2, h3⟩, kp⟩ := F
  obtain ⟨t, pp, q⟩ := h.ex
  obtain ⟨P, w', K, mg, base⟩ := G
  obtain ⟨eP, ew, eK, emg, eb, _⟩ := id B
  simp only at eP ew eK emg eb
  subst eP ew eK emg eb
  exact ⟨_, pe_makeS (E := WE W) M h2 (B.rm.mono hk) g.hg g.hm h3 (fun σ => passAt B.tk σ) pp g.hd he hpl, rdMake B q⟩
theorem de_make0 {kb k n : Nat} {f C : Addr} {x : Str} {p : Pos} {sp : DSp} (B : Bd G kb X W) (M : Mk G.K C f) (F : Fd G k n f sp) (hk : k + 1 ≤ kb) (g : Gn G X x (.ref C)) : DE G X W (.Call (.Name x p) [] [] pos) (wMake C n sp wNil) := by
  obtain ⟨⟨fd, ps, h1, h2, h3⟩, kp⟩ := F
  obtain ⟨P, w', K, mg, base⟩ := G
  obtain ⟨eP, ew, eK, emg, eb, _⟩ := id B
  simp only at eP ew eK emg eb
  subst eP ew eK emg eb
  exact ⟨_, pe_makeS0 (E := WE W) M h2 (B.rm.mono hk) g.hg g.hm h3 (fun σ => passAt B.tk σ) g.hd, rdMake B (fun F σ H ρ M Q Ex Qv k l c h => c [] H [] M F (Same.refl F) k .nil h)⟩
/-- an owned instance becomes frozen -/
theorem Ok.frzI {F H : Hp} {σ : St} {ρ : Env'} {M : Mem} (k : Ok G F σ H ρ M) {p C : Addr} {ds : List (Str × D)} (h : M p = some (.ins C ds)) : ∃ F', Same F F' ∧ Ok G F' σ H ρ (M.del p) ∧ Rf G F' (.ref p) (.obj C ds) := by
  obtain ⟨fF, dx, fs, hH, r⟩ := k.mem p _ h
  have e : Same F (upd F p (.ins C dx fs)) := same_new fF
  refine ⟨upd F p (.ins C dx fs), e, ⟨fun b x q => ?_, k.env.mono e, fun a c q => ?_⟩, .obj upd_same (r.mono e)⟩
  · by_cases hb : b = p
    · subst hb; rw [upd_same] at q; cases q; exact hH
    · rw [upd_ne hb] at q; exact k.same b x q
  · by_cases ha : a = p
    · subst ha; rw [Mem.del_same] at q; cases q
    · rw [Mem.del_ne ha] at q; obtain ⟨h1, h2⟩ := k.mem a c q; exact ⟨by rw [upd_ne ha]; exact h1, h2.mono e⟩
/-- what an expression gives becomes frozen: an instance, a list -/
def wFrz (w : DW) : DW := fun ρ M Q Ex => w ρ M (fun x M' => match x with
  | .ptr p => (match M' p with
    | some (.ins C fs) => Q (.obj C fs) (M'.del p)
    | some (.lst ds) => Q (.lst ds) (M'.del p)
    | _ => False)
  | _ => False) Ex
theorem de_frz (h : DE G X W e we) : DE G X W e (wFrz we) := by
  obtain ⟨t, p, q⟩ := h.ex
  refine ⟨t, p, fun F σ H ρ M Q Ex Qv k l c h0 => q F σ H ρ M _ Ex _ k l (fun v H1 d M1 F1 e1 k1 r1 h1 => ?_) h0⟩
  try dsimp only at h1
  split at h1
  · next p =>
    split at h1
    · next C fs hm =>
      obtain ⟨F', e, k', r'⟩ := k1.frzI hm
      cases r1
      exact c _ H1 _ _ F' (e1.trans e) k' r' h1
    · next ds hm =>
      obtain ⟨F', e, k', r'⟩ := k1.frz hm
      cases r1
      exact c _ H1 _ _ F' (e1.trans e) k' r' h1
    · exact h1.elim
  · exact h1.elim

/-! ### a def's body -/
def startD (N : List Str) (ds : List D) : Env' := ds.map some ++ List.replicate (N.length - ds.length) none
theorem rfE_start {F : Hp} {N : List Str} {vs : List V} {ds : List D} (r : Rfs G F vs ds) : RfE G F (L2.start N vs) (startD N ds) := by
  unfold L2.start startD
  rw [r.length]
  have h2 : ∀ n, RfE G F (List.replicate n none) (List.replicate n none) := fun n => by
    induction n with
    | zero => exact .nil
    | succ n ih => rw [List.replicate_succ]; exact .cons .no ih
  induction vs generalizing ds with
  | nil => cases r; exact h2 _
  | cons v vs ih =>
    cases r with
    | cons r1 r2 =>
      rename_i d ds
      refine .cons (.is r1) ?_
      have aux : ∀ (vs : List V) (ds : List D) (m : Nat), Rfs G F vs ds → RfE G F (vs.map some ++ List.replicate m none) (ds.map some ++ List.replicate m none) := by
        intro vs
        induction vs with
        | nil => intro ds m r; cases r; exact h2 m
        | cons v vs ih => intro ds m r; cases r with | cons r1 r2 => exact .cons (.is r1) (ih _ m r2)
      exact aux vs ds _ r2
/-- what the frame of a def has besides -/
structure Bf (G : Gx) (k : Nat) (N : List Str) (sc : Scope) (X : Cx) (W : WX) : Prop extends Bd G k X W where
  eN : X.N = N
  esc : X.env.scope = sc
  stk : X.stack = X.env :: X.outer
  frm : X.env.frame = some X.env.locals
  fn : ∀ x, X.fn x = true
/-- THE RULE for a def -/
theorem fd_of {k : Nat} {x qual : Str} {st : Stmt} {f : Addr} {fd : FuncData} {N ps : List Str} {sp : DSp} {w : DWS} (Fu : Fun G.K x qual st f fd) (S : FnScope N ps (defScope st)) (hb : Binds G.K fd ps [])
    (hd : ∀ X W, Bf G k N (defScope st) X W → DSs G X W (defBody st) w)
    (hw : ∀ ds M q ex, ds.length = ps.length → sp ds M q ex → w { nx := fun _ M' => q .non M', rt := q, ex := fun x _ M' => ex x M' } (startD N ds) M) : Fd G (k + 1) ps.length f sp := by
  refine ⟨⟨fd, ps, rfl, Fu.okX S (fun vs H Q E h => ?_) (fun cdv A outer s H vs Q E hr h => ?_), hb⟩, Fu.kp⟩
  · obtain ⟨F, ds, M, q, ex, hl, _, _, r, _⟩ := h
    rw [r.length, hl]
  · obtain ⟨F, ds, M, q, ex, hl, hs, hm, r, h, hq, hx⟩ := h
    have B : Bf G k N (defScope st) (cxOf (L2.CX G.P G.w) G.P G.w G.K G.mg G.base N qual (defScope st) f cdv A outer s H E) (fun cls d _ H => E cls d H) :=
      { eP := rfl, ew := rfl, eK := rfl, emg := rfl, eb := rfl, nd := S.nd, rm := hr, calm := rfl, tk := takes_of rfl rfl rfl rfl, po := passes_of rfl, eN := rfl, esc := rfl, stk := rfl, frm := rfl, fn := fun _ => rfl }
    obtain ⟨t, p, qq⟩ := (hd _ _ B).ex
    refine ⟨t, p, qq F (L2.start N vs) H (startD N ds) M _ _ ⟨hs, rfE_start r, hm⟩ ?_ ⟨?_, ?_, ?_, ?_⟩ (hw ds M q ex hl h)⟩
    · intro cls d σ H' x ρ M' F' e k xa q'
      exact hx cls d H' x M' F' e k.same k.mem xa q'
    · intro σ' H' ρ' M' F' e k q'
      exact hq _ H' _ M' F' e k.same k.mem .non q'
    · intro σ' H' ρ' M' F' e k q'
      exact q'
    · intro σ' H' ρ' M' F' e k q'
      exact q'
    · intro v σ' H' ρ' d M' F' e k r' q'
      exact hq v H' d M' F' e k.same k.mem r' q'

/-! ### methods of lists -/
abbrev DRM := D → List D → Mem → QE → Prop
def MtD (G : Gx) (X : Cx) (id : String) (r : DRM) : Prop := ∃ rv, MtR X id rv ∧ ∀ (F : Hp) (σ : St) (H : Hp) (ρ : Env') (M : Mem) (x : V) (dx : D) (vs : List V) (ds : List D) (Q : QE) (Qv : VK), Ok G F σ H ρ M → Rf G F x dx → Rfs G F vs ds →
  (∀ v H' d M' F', Same F F' → Ok G F' σ H' ρ M' → Rf G F' v d → Q d M' → Qv v H') → r dx ds M Q → rv x vs H Qv
/-- the receiver is a list -/
def wBM (r : DRM) (wo : DW) (w : DWA) : DW := fun ρ M Q Ex => wo ρ M (fun x M1 => (vw M1 x).isSome = true ∧ w ρ M1 (fun ds M2 => r x ds M2 Q) Ex) Ex
theorem de_bm {kb : Nat} (B : Bd G kb X W) {name : Str} {apos cpos : Pos} {id : String} {r : DRM} {w : DWA} (slot : Slot "list" name id) (hty : typeOf (.builtin id) = pure (.type "method_descriptor")) (hm : MtD G X id r) (ho : DE G X W o wo) (h : DA G X W (e :: es) w)
    (hbase : attributeBase o name X.env (eval o X.env) = eval o X.env := by rfl)
    (hfew : ((backTo cpos (starEach (e :: es) X.env)).all (fun x => !x.1) && (backToKw cpos (keywordEach [] X.env)).all (fun x => x.1.isSome)
      && decide ((e :: es).length + ([] : List Keyword).length + (if ([] : List Keyword).isEmpty then 0 else 1) < 30)) = true := by rfl)
    (hline : (apos.endLine == cpos.line) = true := by rfl) (hs : starEach (e :: es) X.env = (false, eval e X.env) :: starEach es X.env := by rfl) (hplain : (backTo cpos (starEach es X.env)).any (·.1) = false := by rfl) :
    DE G X W (.Call (.Attribute o name apos) (e :: es) [] cpos) (wBM r wo w) := by
  obtain ⟨rv, h1, h2⟩ := hm
  obtain ⟨t, p, q⟩ := ho.ex
  obtain ⟨t', p', q'⟩ := h.ex
  refine ⟨_, pe_bm PySem.F.plainAttrs_list slot hty h1 p p' hbase hfew hline hs hplain, fun F σ H ρ M Q Ex Qv k l c h0 => q F σ H ρ M _ Ex _ k l (fun v H1 d M1 F1 e1 k1 r1 h3 => ?_) h0⟩
  obtain ⟨hv, h3⟩ := h3
  obtain ⟨ds, hv⟩ := Option.isSome_iff_exists.mp hv
  obtain ⟨a, xs, rfl, h4, h5⟩ := vw_sq k1 r1 hv
  rw [B.eK]
  refine ⟨.inl ⟨rfl, xs, h4⟩, q' F1 σ H1 ρ M1 _ Ex _ k1 (l.mono e1) (fun vs H2 ds M2 F2 e2 k2 r2 h6 => ?_) h3⟩
  exact h2 F2 σ H2 ρ M2 _ _ _ _ Q Qv k2 (r1.mono e2) r2 (fun v H' d M' F' e' => c v H' d M' F' ((e1.trans e2).trans e')) h6
theorem de_bm0 {kb : Nat} (B : Bd G kb X W) {name : Str} {apos cpos : Pos} {id : String} {r : DRM} (slot : Slot "list" name id) (hty : typeOf (.builtin id) = pure (.type "method_descriptor")) (hm : MtD G X id r) (ho : DE G X W o wo)
    (hbase : attributeBase o name X.env (eval o X.env) = eval o X.env := by rfl) (hline : (apos.endLine == cpos.line) = true := by rfl) :
    DE G X W (.Call (.Attribute o name apos) [] [] cpos) (wBM r wo wNil) := by
  obtain ⟨rv, h1, h2⟩ := hm
  obtain ⟨t, p, q⟩ := ho.ex
  refine ⟨_, pe_bm0 PySem.F.plainAttrs_list slot hty h1 p hbase hline, fun F σ H ρ M Q Ex Qv k l c h0 => q F σ H ρ M _ Ex _ k l (fun v H1 d M1 F1 e1 k1 r1 h3 => ?_) h0⟩
  obtain ⟨hv, h3⟩ := h3
  obtain ⟨ds, hv⟩ := Option.isSome_iff_exists.mp hv
  obtain ⟨a, xs, rfl, h4, h5⟩ := vw_sq k1 r1 hv
  rw [B.eK]
  exact ⟨.inl ⟨rfl, xs, h4⟩, h2 F1 σ H1 ρ M1 _ _ _ _ Q Qv k1 r1 .nil (fun v H' d M' F' e' => c v H' d M' F' (e1.trans e')) h3⟩
def rApp : DRM := fun x ds M Q => match x, ds with
  | .ptr a, [d] => (match M a with
    | some (.lst xs) => xs.length < sizeLine ∧ Q .non (M.set a (.lst (xs ++ [d])))
    | _ => False)
  | _, _ => False
theorem md_append : MtD G X "list.append" rApp := by
  refine ⟨_, mt_append, fun F σ H ρ M x dx vs ds Q Qv k rx rs c h => ?_⟩
  unfold rApp at h
  split at h
  · next a d =>
    split at h
    · next xs hm =>
      obtain ⟨_, ys, hH, r⟩ := k.mem a _ hm
      cases rx
      cases rs with
      | cons r1 r2 =>
        cases r2
        exact ⟨a, ys, _, rfl, rfl, hH, by rw [r.length]; exact h.1, c _ _ _ _ F (Same.refl F) (k.chg (c' := .lst (xs ++ [d])) hm ⟨_, upd_same, r.append (.cons r1 .nil)⟩) .non h.2⟩
    · exact h.elim
  · exact h.elim
def rPopD : DRM := fun x ds M Q => match x, ds with
  | .ptr a, [] => (match M a with
    | some (.lst xs) => (match xs[xs.length - 1]? with
      | some d => Q d (M.set a (.lst xs.dropLast))
      | none => False)
    | _ => False)
  | _, _ => False
theorem md_pop : MtD G X "list.pop" rPopD := by
  refine ⟨_, mt_pop, fun F σ H ρ M x dx vs ds Q Qv k rx rs c h => ?_⟩
  unfold rPopD at h
  split at h
  · next a =>
    split at h
    · next xs hm =>
      split at h
      · next d hd =>
        obtain ⟨_, ys, hH, r⟩ := k.mem a _ hm
        cases rx
        cases rs
        obtain ⟨v, hv, rv⟩ := r.get hd
        rw [← r.length] at hv
        exact ⟨a, ys, v, rfl, rfl, hH, hv, c _ _ _ _ F (Same.refl F) (k.chg (c' := .lst xs.dropLast) hm ⟨_, upd_same, r.dropLast⟩) rv h⟩
      · exact h.elim
    · exact h.elim
  · exact h.elim
def rClearD : DRM := fun x ds M Q => match x, ds with
  | .ptr a, [] => (match M a with
    | some (.lst xs) => Q .non (M.set a (.lst []))
    | _ => False)
  | _, _ => False
theorem md_clear : MtD G X "list.clear" rClearD := by
  refine ⟨_, mt_clear, fun F σ H ρ M x dx vs ds Q Qv k rx rs c h => ?_⟩
  unfold rClearD at h
  split at h
  · next a =>
    split at h
    · next xs hm =>
      obtain ⟨_, ys, hH, r⟩ := k.mem a _ hm
      cases rx
      cases rs
      exact ⟨a, ys, rfl, rfl, hH, c _ _ _ _ F (Same.refl F) (k.chg (c' := .lst []) hm ⟨_, upd_same, .nil⟩) .non h⟩
    · exact h.elim
  · exact h.elim
end
end DL
namespace DL
open PySem PySem.Spec L2

/-! ### dicts as data -/
def kEq (a b : D) : Bool := decide (D.key a = D.key b)
def dget (kvs : List (D × D)) (k : D) : Option D := (kvs.find? fun kv => kEq kv.1 k).map (·.2)
def dput (kvs : List (D × D)) (k v : D) : List (D × D) := if (kvs.any fun kv => kEq kv.1 k) = true then kvs.map (fun kv => if kEq kv.1 k = true then (kv.1, v) else kv) else kvs ++ [(k, v)]
/-- a key of the dict's kind: false: an int or a text; true: a tuple -/
def dkey : Bool → D → Prop
  | false, .int _ => True
  | false, .str _ => True
  | true, .tup ds => ∃ k, D.key (.tup ds) = some k ∧ k.depth ≤ 8
  | _, _ => False
/-- a dict: frozen or owned -/
def dctD (M : Mem) : D → Option (Bool × List (D × D))
  | .dct n kvs => some (n, kvs)
  | .ptr a => match M a with | some (.dct n kvs) => some (n, kvs) | _ => none
  | _ => none

section
variable {G : Gx} {X : Cx} {W : WX} {F H : Hp} {σ : St} {ρ : Env'} {M : Mem}
theorem kD_key (k : Key) : D.key (kD k) = some (match k with | .inl i => .num i | .inr x => .text x) := by cases k <;> rfl
theorem kEq_kD (a b : Key) : kEq (kD a) (kD b) = decide (a = b) := by
  unfold kEq
  cases a <;> cases b <;> simp [kD, D.key]
theorem RfK.get {kvs : List (Key × V)} {ds : List (D × D)} (h : RfK G F kvs ds) (k : Key) : (∀ d, dget ds (kD k) = some d → ∃ v, valV kvs k = some v ∧ Rf G F v d) ∧ (dget ds (kD k) = none → valV kvs k = none) := by
  induction kvs generalizing ds with
  | nil => cases h; exact ⟨fun d e => by simp [dget] at e, fun _ => rfl⟩
  | cons p kvs ih =>
    cases h with
    | cons h r =>
      rename_i k' v d ds
      unfold dget valV
      simp only [List.find?_cons, kEq_kD]
      by_cases e : k' = k
      · simp only [e, decide_true]
        exact ⟨fun d' e' => by simp at e'; subst e'; exact ⟨v, rfl, h⟩, fun e' => by simp at e'⟩
      · simp only [e, decide_false]
        exact ih r
theorem RfK.length {kvs : List (Key × V)} {ds : List (D × D)} (h : RfK G F kvs ds) : kvs.length = ds.length := by
  induction kvs generalizing ds with
  | nil => cases h; rfl
  | cons p kvs ih => cases h with | cons h r => simp [ih r]
theorem RfK.snoc {kvs : List (Key × V)} {ds : List (D × D)} (h : RfK G F kvs ds) {k : Key} {v : V} {d : D} (r : Rf G F v d) : RfK G F (kvs ++ [(k, v)]) (ds ++ [(kD k, d)]) := by
  induction kvs generalizing ds with
  | nil => cases h; exact .cons r .nil
  | cons p kvs ih => cases h with | cons h r' => exact .cons h (ih r')
theorem RfK.upd {kvs : List (Key × V)} {ds : List (D × D)} (h : RfK G F kvs ds) {k : Key} {v : V} {d : D} (r : Rf G F v d) : RfK G F (kvs.map fun kv => if kv.1 = k then (kv.1, v) else kv) (ds.map fun kv => if kEq kv.1 (kD k) = true then (kv.1, d) else kv) := by
  induction kvs generalizing ds with
  | nil => cases h; exact .nil
  | cons p kvs ih =>
    cases h with
    | cons h r' =>
      rename_i k' v' d' ds
      simp only [List.map_cons, kEq_kD]
      by_cases e : k' = k
      · simp only [e, decide_true, if_true]
        exact .cons r (ih r')
      · simp only [e, decide_false, if_false]
        exact .cons h (ih r')
theorem RfK.any {kvs : List (Key × V)} {ds : List (D × D)} (h : RfK G F kvs ds) (k : Key) : (kvs.any fun kv => decide (kv.1 = k)) = (ds.any fun kv => kEq kv.1 (kD k)) := by
  induction kvs generalizing ds with
  | nil => cases h; rfl
  | cons p kvs ih => cases h with | cons h r => simp only [List.any_cons, kEq_kD, ih r]
theorem RfK.put {kvs : List (Key × V)} {ds : List (D × D)} (h : RfK G F kvs ds) {k : Key} {v : V} {d : D} (r : Rf G F v d) : RfK G F (putK kvs k v) (dput ds (kD k) d) := by
  unfold putK dput
  rw [h.any k]
  by_cases e : (ds.any fun kv => kEq kv.1 (kD k)) = true
  · rw [if_pos e, if_pos e]; exact h.upd r
  · rw [if_neg e, if_neg e]; exact h.snoc r

/-! ### tuple keys -/
mutual
theorem nested_of {pins : List (Addr × Obj)} {s : Shared} (eK : X.K = G.K) (I : Inv X pins σ H s) (e : Same F H) : ∀ (d : D) (v : V) (u : Value) (nk : NestedKey), Rf G F v d → RelV v u → D.key d = some nk → NestedIs s.heap nk u
  | .non, _, _, _, r, rv, h => by cases r; cases rv; cases h; exact .none
  | .bl b, _, _, _, r, rv, h => by cases r; cases rv; cases h; exact .bool rfl
  | .int i, _, _, _, r, rv, h => by cases r; obtain ⟨t, rfl⟩ := rv; cases h; exact .int _ _
  | .str x, _, _, _, r, rv, h => by cases r; obtain ⟨t, rfl⟩ := rv; cases h; exact .text _ _
  | .tup ds, _, _, _, r, rv, h => by
    cases r with
    | tup hs hr =>
      rename_i a xs
      cases rv
      simp only [D.key] at h
      split at h
      · next ks hk =>
        cases h
        obtain ⟨its, rr, ⟨o, ho, hc, n, hd⟩, _⟩ := I.tuple (by rw [eK]; exact sqT_mono e hs)
        exact .tup ho hc hd (nested_all eK I e ds xs its ks hr rr hk)
      · cases h
  | .ptr _, _, _, _, _, _, h => by cases h
  | .ty _, _, _, _, _, _, h => by cases h
  | .lst _, _, _, _, _, _, h => by cases h
  | .dct _ _, _, _, _, _, _, h => by cases h
  | .obj _ _, _, _, _, _, _, h => by cases h
theorem nested_all {pins : List (Addr × Obj)} {s : Shared} (eK : X.K = G.K) (I : Inv X pins σ H s) (e : Same F H) : ∀ (ds : List D) (vs : List V) (us : List Value) (nks : List NestedKey), Rfs G F vs ds → Vals vs us → D.keys ds = some nks → NestedAll s.heap nks us
  | [], _, _, _, r, rv, h => by cases r; cases rv; cases h; exact .nil
  | d :: ds, _, _, _, r, rv, h => by
    cases r with
    | cons r1 r2 =>
      cases rv with
      | cons v1 v2 =>
        simp only [D.keys] at h
        split at h
        · next k ks h1 h2 => cases h; exact .cons (nested_of eK I e d _ _ _ r1 v1 h1) (nested_all eK I e ds _ _ _ r2 v2 h2)
        · cases h
end
/-- the entries as values -/
abbrev RelN : List (NestedKey × Addr × V) → List (NestedKey × Addr × Value) → Prop := Paired fun (p : NestedKey × Addr × V) (q : NestedKey × Addr × Value) => p.1 = q.1 ∧ p.2.1 = q.2.1 ∧ RelV p.2.2 q.2.2
theorem n_dict {pins : List (Addr × Obj)} {s : Shared} {a : Addr} {es : List (NestedKey × Addr × V)} {ds : List (D × D)} (eP : X.prog = G.P) (ew : X.w = G.w) (eK : X.K = G.K) (I : Inv X pins σ H s) (e : Same F H) (h : Rd H a (hoN G a es)) (r : RfN G F es ds) :
    es.length ≤ sizeLine ∧ (a == sysModules) = false ∧ ∃ xs, RelN es xs ∧ s.heap.DictOfH (nestedKind X.prog X.w) a xs := by
  have h' : ObjOk X.prog X.w H s.heap a (hoN G a es) := h.ok I.hok
  obtain ⟨⟨xs, rr, hz, hs, o, es', ep, h1, h2, h3, h4, h5⟩, _⟩ := h'
  refine ⟨hz, hs, xs, rr, o, es', ep, h1, h2, h3, by rw [eP, ew]; exact h4, ?_, h5⟩
  have all : ∀ {l : List (NestedKey × Addr × V)} {m : List (NestedKey × Addr × Value)} {ds : List (D × D)}, RelN l m → RfN G F l ds → ∀ x ∈ m, (nestedKind X.prog X.w).is s.heap x.1 x.2.1 := by
    intro l m ds q
    induction q generalizing ds with
    | nil => intro _ x hx; exact nomatch hx
    | @cons p q ps qs hq t ih =>
      intro r x hx
      cases r with
      | cons hk h0 h1 r2 =>
        rcases List.mem_cons.mp hx with e' | hx
        · subst e'
          obtain ⟨q1, q2, _⟩ := hq
          refine ⟨?_, ?_⟩
          · rw [← q1, ← q2]
            exact nested_of eK I e _ _ _ _ h0 rfl hk.1
          · rw [← q1]; exact hk.2
        · exact ih r2 x hx
  exact all rr r
theorem n_key {pins : List (Addr × Obj)} {s : Shared} {b : Addr} {d : D} {nk : NestedKey} (eK : X.K = G.K) (I : Inv X pins σ H s) (e : Same F H) (r : Rf G F (.ref b) d) (hk : D.key d = some nk) (hd : nk.depth ≤ 8) : (nestedKind X.prog X.w).is s.heap nk b :=
  ⟨nested_of eK I e d _ _ _ r rfl hk, hd⟩
theorem RelN.get {es : List (NestedKey × Addr × V)} {xs : List (NestedKey × Addr × Value)} {ds : List (D × D)} (q : RelN es xs) (r : RfN G F es ds) {k : D} {nk : NestedKey} (hk : D.key k = some nk) :
    (∀ d, dget ds k = some d → ∃ v p, atKey xs nk = some p ∧ RelV v p.2 ∧ Rf G F v d) ∧ (dget ds k = none → atKey xs nk = none) := by
  induction q generalizing ds with
  | nil => cases r; exact ⟨fun d e => by simp [dget] at e, fun _ => rfl⟩
  | @cons p q ps qs hq t ih =>
    cases r with
    | cons hk' h0 h1 r2 =>
      rename_i nk' b v kd d ds
      obtain ⟨q1, q2, q3⟩ := hq
      unfold dget atKey
      simp only [List.find?_cons]
      have e1 : kEq kd k = decide (q.1 = nk) := by
        unfold kEq
        rw [hk'.1, hk, ← q1]
        simp
      rw [e1]
      by_cases e : q.1 = nk
      · simp only [e, decide_true]
        exact ⟨fun d' e' => by simp at e'; subst e'; exact ⟨v, q.2, rfl, q3, h1⟩, fun e' => by simp at e'⟩
      · simp only [e, decide_false]
        exact ih r2
theorem RfN.length {es : List (NestedKey × Addr × V)} {ds : List (D × D)} (h : RfN G F es ds) : es.length = ds.length := by
  induction es generalizing ds with
  | nil => cases h; rfl
  | cons p kvs ih => cases h with | cons _ _ h r => simp [ih r]
/-- the entries behind d[k] = v -/
def esPut (es : List (NestedKey × Addr × V)) (k : NestedKey) (b : Addr) (v : V) : List (NestedKey × Addr × V) :=
  if (es.any fun x => decide (x.1 = k)) = true then es.map (fun x => if x.1 = k then (x.1, x.2.1, v) else x) else es ++ [(k, b, v)]
theorem atKey_any {xs : List (NestedKey × Addr × Value)} {k : NestedKey} : (atKey xs k).isSome = xs.any fun x => decide (x.1 = k) := by
  unfold atKey
  rw [Option.isSome_map]
  induction xs with
  | nil => rfl
  | cons x xs ih =>
    rw [List.find?_cons, List.any_cons]
    by_cases e : x.1 = k
    · simp [e]
    · simp only [e, decide_false, Bool.false_or]; exact ih
theorem RelN.put {es : List (NestedKey × Addr × V)} {xs : List (NestedKey × Addr × Value)} (q : RelN es xs) (k : NestedKey) (b : Addr) {v : V} {u : Value} (r : RelV v u) : RelN (esPut es k b v) (storedH xs k b u) := by
  unfold esPut storedH
  rw [atKey_any]
  have e : (xs.any fun x => decide (x.1 = k)) = (es.any fun x => decide (x.1 = k)) := by
    induction q with
    | nil => rfl
    | cons h t ih => rw [List.any_cons, List.any_cons, ih, h.1]
  rw [e]
  by_cases c : (es.any fun x => decide (x.1 = k)) = true
  · rw [if_pos c, if_pos c]
    clear c e
    induction q with
    | nil => exact .nil
    | @cons p q ps qs h t ih =>
      rw [List.map_cons, List.map_cons]
      unfold putAt
      obtain ⟨h1, h2, h3⟩ := h
      rw [h1]
      by_cases c : q.1 = k
      · rw [if_pos c, if_pos c]; exact .cons ⟨rfl, h2, r⟩ ih
      · rw [if_neg c, if_neg c]; exact .cons ⟨h1, h2, h3⟩ ih
  · rw [if_neg c, if_neg c]
    clear c e
    induction q with
    | nil => exact .cons ⟨rfl, rfl, r⟩ .nil
    | cons h t ih => exact .cons h ih
theorem RfN.put {es : List (NestedKey × Addr × V)} {ds : List (D × D)} (h : RfN G F es ds) {k : D} {nk : NestedKey} {b : Addr} {v : V} {d : D} (hk : D.key k = some nk) (hd : nk.depth ≤ 8) (rk : Rf G F (.ref b) k) (r : Rf G F v d) : RfN G F (esPut es nk b v) (dput ds k d) := by
  unfold esPut dput
  have e : (es.any fun x => decide (x.1 = nk)) = (ds.any fun kv => kEq kv.1 k) := by
    clear r
    induction es generalizing ds with
    | nil => cases h; rfl
    | cons p es ih =>
      cases h with
      | cons hk' h0 h1 r2 =>
        rw [List.any_cons, List.any_cons, ih r2]
        unfold kEq
        rw [hk'.1, hk]
        simp
  rw [e]
  by_cases c : (ds.any fun kv => kEq kv.1 k) = true
  · rw [if_pos c, if_pos c]
    clear c e
    induction es generalizing ds with
    | nil => cases h; exact .nil
    | cons p es ih =>
      cases h with
      | cons hk' h0 h1 r2 =>
        rename_i nk' b' v' kd d' ds
        rw [List.map_cons, List.map_cons]
        have e1 : kEq kd k = decide (nk' = nk) := by unfold kEq; rw [hk'.1, hk]; simp
        simp only [e1, decide_eq_true_eq]
        by_cases c : nk' = nk
        · rw [if_pos c, if_pos c]; exact .cons hk' h0 r (ih r2)
        · rw [if_neg c, if_neg c]; exact .cons hk' h0 h1 (ih r2)
  · rw [if_neg c, if_neg c]
    clear c e
    induction es generalizing ds with
    | nil => cases h; exact .cons ⟨hk, hd⟩ rk r .nil
    | cons p es ih => cases h with | cons hk' h0 h1 r2 => exact .cons hk' h0 h1 (ih r2)
theorem esPut_len (es : List (NestedKey × Addr × V)) (k : NestedKey) (b : Addr) (v : V) : (esPut es k b v).length ≤ es.length + 1 := by
  unfold esPut
  split
  · simp
  · simp
/-- the object behind a store -/
theorem n_new {P : Program} {w : World} {H : Hp} {h : Heap} {a : Addr} {es : List (NestedKey × Addr × V)} {xs : List (NestedKey × Addr × Value)} (eP : P = G.P) (ew : w = G.w) (q : RelN es xs) (hz : es.length ≤ sizeLine) (hs : (a == sysModules) = false) (hd : h.DictOfH (nestedKind P w) a xs) : ObjOk P w H h a (hoN G a es) := by
  subst eP ew
  obtain ⟨o, es', ep, h1, h2, h3, h4, _, h5⟩ := hd
  refine ⟨⟨xs, q, hz, hs, o, es', ep, h1, h2, h3, h4, h5⟩, ⟨o, h1⟩, ?_⟩
  rintro g1 g2 ⟨xs, q, hz, hs, o, es', ep, h1, h2, h3, h4, h5⟩ k
  exact ⟨xs, q, hz, hs, o, es', ep, k _ h1, h2, h3, h4, h5⟩
end

/-! ### rules from runs -/
section
variable {G : Gx} {X : Cx} {W : WX} {a b c e o tg iter elt : Expr} {es rest ifs : List Expr} {pos p2 : Pos} {wa wb wc we wo : DW}
theorem DE.of (h : ∀ pins s σ H F ρ M Q Ex Qv, Inv X pins σ H s → Ok G F σ H ρ M → ExL G W F Ex → (∀ v H' d M' F', Same F F' → Ok G F' σ H' ρ M' → Rf G F' v d → Q d M' → Qv v H') → we ρ M Q Ex → wpAny (model X.prog X.w) X.A (eval e X.env) (EP X pins σ Qv) X.xe s) : DE G X W e we :=
  ⟨tE G W we, ⟨fun pins s σ H Qv I ⟨F, ρ, M, Q, Ex, k, l, c, hw⟩ => h pins s σ H F ρ M Q Ex Qv I k l c hw⟩, rdE_can⟩
theorem OpD.of {f : Value → Value → Sem Value} {r : R2D} (h : ∀ pins s σ H x y v u F M dx dy Q Qv, Inv X pins σ H s → RelV x v → RelV y u → Same F H → RepM G F H M → Rf G F x dx → Rf G F y dy →
    (∀ z H' d M' F', Same F F' → Same F' H' → RepM G F' H' M' → Rf G F' z d → Q d M' → Qv z H') → r dx dy M Q → wpAny (model X.prog X.w) X.A (f v u) (EP X pins σ Qv) X.xe s) : OpD G X W f r :=
  ⟨fun x y H Qv => ∃ F M dx dy Q, Same F H ∧ RepM G F H M ∧ Rf G F x dx ∧ Rf G F y dy ∧ (∀ z H' d M' F', Same F F' → Same F' H' → RepM G F' H' M' → Rf G F' z d → Q d M' → Qv z H') ∧ r dx dy M Q,
    fun pins s σ H x y v u Qv I rx ry ⟨F, M, dx, dy, Q, h1, h2, h3, h4, h5, h6⟩ => h pins s σ H x y v u F M dx dy Q Qv I rx ry h1 h2 h3 h4 h5 h6,
    fun F σ H ρ M x y dx dy Q Qv k rx ry c h => ⟨F, M, dx, dy, Q, k.same, k.mem, rx, ry, fun z H' d M' F' e s m => c z H' d M' F' e ⟨s, k.env.mono e, m⟩, h⟩⟩
theorem CallD.of {f : Value} {r : R1D} (h : ∀ pins s σ H vs us F M ds Q Qv, Inv X pins σ H s → Vals vs us → Same F H → RepM G F H M → Rfs G F vs ds →
    (∀ z H' d M' F', Same F F' → Same F' H' → RepM G F' H' M' → Rf G F' z d → Q d M' → Qv z H') → r ds M Q → wpAny (model X.prog X.w) X.A (call f us) (EP X pins σ Qv) X.xe s) : CallD G X W f r :=
  ⟨fun vs H Qv => ∃ F M ds Q, Same F H ∧ RepM G F H M ∧ Rfs G F vs ds ∧ (∀ z H' d M' F', Same F F' → Same F' H' → RepM G F' H' M' → Rf G F' z d → Q d M' → Qv z H') ∧ r ds M Q,
    fun pins s σ H vs us Qv I rv ⟨F, M, ds, Q, h1, h2, h3, h4, h5⟩ => h pins s σ H vs us F M ds Q Qv I rv h1 h2 h3 h4 h5,
    fun F σ H ρ M vs ds Q Qv k rv c h => ⟨F, M, ds, Q, k.same, k.mem, rv, fun z H' d M' F' e s m => c z H' d M' F' e ⟨s, k.env.mono e, m⟩, h⟩⟩

/-- a dict as it stands: K or N -/
theorem dct_at {F H : Hp} {M : Mem} {x : V} {d : D} {n : Bool} {ds : List (D × D)} (s : Same F H) (m : RepM G F H M) (r : Rf G F x d) (h : dctD M d = some (n, ds)) :
    ∃ a, x = .ref a ∧ ((n = false ∧ ∃ kvs, Rd H a (.dK kvs) ∧ RfK G F kvs ds) ∨ (n = true ∧ ∃ es, Rd H a (hoN G a es) ∧ RfN G F es ds)) := by
  cases d with
  | dct n' ds' =>
    cases h
    cases r with
    | dK h1 h2 => exact ⟨_, rfl, .inl ⟨rfl, _, .inr ⟨_, s _ _ h1⟩, h2⟩⟩
    | dN h1 h2 => exact ⟨_, rfl, .inr ⟨rfl, _, .inr ⟨_, s _ _ h1⟩, h2⟩⟩
  | ptr p =>
    simp only [dctD] at h
    split at h
    · next n' ds' e =>
      cases h
      obtain ⟨_, hc⟩ := m p _ e
      cases r
      cases n with
      | false => obtain ⟨kvs, h1, h2⟩ := hc; exact ⟨p, rfl, .inl ⟨rfl, kvs, .inl h1, h2⟩⟩
      | true => obtain ⟨es, h1, h2⟩ := hc; exact ⟨p, rfl, .inr ⟨rfl, es, .inl h1, h2⟩⟩
    · cases h
  | _ => cases h
theorem dkey_K {F : Hp} {x : V} {d : D} (r : Rf G F x d) (h : dkey false d) : ∃ k : Key, x = kV k ∧ d = kD k := by
  cases d with
  | int i => cases r; exact ⟨.inl i, rfl, rfl⟩
  | str z => cases r; exact ⟨.inr z, rfl, rfl⟩
  | _ => exact h.elim
theorem dkey_N {F : Hp} {x : V} {d : D} (r : Rf G F x d) (h : dkey true d) : ∃ b nk, x = .ref b ∧ D.key d = some nk ∧ nk.depth ≤ 8 := by
  cases d with
  | tup ds => obtain ⟨nk, h1, h2⟩ := h; cases r; exact ⟨_, nk, rfl, h1, h2⟩
  | _ => exact h.elim
theorem nroom {A : Around} {k : Nat} (hr : Room k A) : (nestedKind X.prog X.w).room A.in1 := by
  have := hr.un
  show A.units + 1 + 8 < cLine
  omega
/-- x in d, x not in d -/
def rInD (neg : Bool) : R2D := fun x y M Q => match dctD M y with
  | some (n, kvs) => dkey n x ∧ Q (.bl (if neg then !(dget kvs x).isSome else (dget kvs x).isSome)) M
  | none => False
theorem dop_inD {k : Nat} (B : Bd G k X W) : OpD G X W (compareOp .In) (rInD false) := by
  refine OpD.of fun pins s σ H x y v u F M dx dy Q Qv I rx ry hs hm r1 r2 c h => ?_
  unfold rInD at h
  split at h
  · next n kvs hd =>
    obtain ⟨hk, h⟩ := h
    obtain ⟨a, rfl, hc⟩ := dct_at hs hm r2 hd
    obtain rfl : u = Value.ref a := ry
    rcases hc with ⟨rfl, ks, h1, h2⟩ | ⟨rfl, es, h1, h2⟩
    · obtain ⟨kk, rfl, rfl⟩ := dkey_K r1 hk
      refine d_in (hu_of B.rm) I (show DGet H a (kV kk) (valV ks kk) from .inl ⟨ks, kk, h1, rfl, rfl⟩) rx fun s' I' => ⟨.bl _, H, I', rfl, ?_⟩
      obtain ⟨g1, g2⟩ := h2.get kk
      have : (valV ks kk).isSome = (dget kvs (kD kk)).isSome := by
        cases e : dget kvs (kD kk) with
        | none => rw [g2 e]; rfl
        | some d => obtain ⟨v, e1, _⟩ := g1 d e; rw [e1]; rfl
      rw [this]
      exact c _ H _ M F (Same.refl F) hs hm (.bl _) h
    · obtain ⟨b, nk, rfl, h3, h4⟩ := dkey_N r1 hk
      obtain rfl : v = Value.ref b := rx
      obtain ⟨hz, hsm, xs, q, dd⟩ := n_dict B.eP B.ew B.eK I hs h1 h2
      refine wpAny_in_heap (nroom B.rm) (n_key B.eK I hs r1 h3 h4) hsm dd ⟨.bl _, H, I.tok _, rfl, ?_⟩
      obtain ⟨g1, g2⟩ := q.get h2 h3
      have : (atKey xs nk).isSome = (dget kvs dx).isSome := by
        cases e : dget kvs dx with
        | none => rw [g2 e]; rfl
        | some d => obtain ⟨v, p, e1, _⟩ := g1 d e; rw [e1]; rfl
      rw [this]
      exact c _ H _ M F (Same.refl F) hs hm (.bl _) h
  · exact h.elim
theorem n_notIn {prog : Program} {w : World} {A : Around} {E : Value → Shared → Prop} {s : Shared} {d a : Addr} {k : NestedKey} {xs : List (NestedKey × Addr × Value)} {Q : Value → Shared → Prop} (hu : (nestedKind prog w).room A.in1) (hkey : (nestedKind prog w).is s.heap k a) (hd : (d == sysModules) = false) (hm : s.heap.DictOfH (nestedKind prog w) d xs)
    (h : Q (.bool (!(atKey xs k).isSome)) { s with toks := s.toks + (nestedKind prog w).draws k }) : wpAny (model prog w) A (compareOp .NotIn (.ref a) (.ref d)) Q E s := by
  show wpAny _ _ (do return .bool (!(← contains (.ref d) (.ref a)))) Q E s
  exact wpAny_bind (wpAny_contains_heap hu hkey hd hm (wpAny_pure h))
theorem dop_notInD {k : Nat} (B : Bd G k X W) : OpD G X W (compareOp .NotIn) (rInD true) := by
  refine OpD.of fun pins s σ H x y v u F M dx dy Q Qv I rx ry hs hm r1 r2 c h => ?_
  unfold rInD at h
  split at h
  · next n kvs hd =>
    obtain ⟨hk, h⟩ := h
    obtain ⟨a, rfl, hc⟩ := dct_at hs hm r2 hd
    obtain rfl : u = Value.ref a := ry
    rcases hc with ⟨rfl, ks, h1, h2⟩ | ⟨rfl, es, h1, h2⟩
    · obtain ⟨kk, rfl, rfl⟩ := dkey_K r1 hk
      refine d_notIn (hu_of B.rm) I (show DGet H a (kV kk) (valV ks kk) from .inl ⟨ks, kk, h1, rfl, rfl⟩) rx fun s' I' => ⟨.bl _, H, I', rfl, ?_⟩
      obtain ⟨g1, g2⟩ := h2.get kk
      have : (valV ks kk).isSome = (dget kvs (kD kk)).isSome := by
        cases e : dget kvs (kD kk) with
        | none => rw [g2 e]; rfl
        | some d => obtain ⟨v, e1, _⟩ := g1 d e; rw [e1]; rfl
      rw [this]
      exact c _ H _ M F (Same.refl F) hs hm (.bl _) h
    · obtain ⟨b, nk, rfl, h3, h4⟩ := dkey_N r1 hk
      obtain rfl : v = Value.ref b := rx
      obtain ⟨hz, hsm, xs, q, dd⟩ := n_dict B.eP B.ew B.eK I hs h1 h2
      refine n_notIn (nroom B.rm) (n_key B.eK I hs r1 h3 h4) hsm dd ⟨.bl _, H, I.tok _, rfl, ?_⟩
      obtain ⟨g1, g2⟩ := q.get h2 h3
      have : (atKey xs nk).isSome = (dget kvs dx).isSome := by
        cases e : dget kvs dx with
        | none => rw [g2 e]; rfl
        | some d => obtain ⟨v, p, e1, _⟩ := g1 d e; rw [e1]; rfl
      rw [this]
      exact c _ H _ M F (Same.refl F) hs hm (.bl _) h
  · exact h.elim
/-- d[k], there -/
theorem d_item {k : Nat} {pins : List (Addr × Obj)} {s : Shared} {σ : St} {H F : Hp} {M : Mem} {x y : V} {v u : Value} {dx dy d : D} {n : Bool} {kvs : List (D × D)} {Q : QE} {Qv : VK} (B : Bd G k X W) (I : Inv X pins σ H s) (rx : RelV x v) (ry : RelV y u) (hs : Same F H) (hm : RepM G F H M) (r1 : Rf G F x dx) (r2 : Rf G F y dy)
    (c : ∀ z H' d M' F', Same F F' → Same F' H' → RepM G F' H' M' → Rf G F' z d → Q d M' → Qv z H') (hd : dctD M dx = some (n, kvs)) (hk : dkey n dy) (hg : dget kvs dy = some d) (h : Q d M) :
    s.TypeIs v "dict" ∧ wpAny (model X.prog X.w) X.A (getItem v u) (EP X pins σ Qv) X.xe s := by
  obtain ⟨a, rfl, hc⟩ := dct_at hs hm r1 hd
  obtain rfl : v = Value.ref a := rx
  rcases hc with ⟨rfl, ks, h1, h2⟩ | ⟨rfl, es, h1, h2⟩
  · obtain ⟨kk, rfl, rfl⟩ := dkey_K r2 hk
    obtain ⟨z, hz, rz⟩ := (h2.get kk).1 d hg
    have g : DGet H a (kV kk) (some z) := .inl ⟨ks, kk, h1, rfl, hz.symm⟩
    exact ⟨dict_typeIs I g, d_getItem (hu_of B.rm) I g ry fun w' s' I' rw' => ⟨z, H, I', rw', c z H d M F (Same.refl F) hs hm rz h⟩⟩
  · obtain ⟨b, nk, rfl, h3, h4⟩ := dkey_N r2 hk
    obtain rfl : u = Value.ref b := ry
    obtain ⟨hz, hsm, xs, q, dd⟩ := n_dict B.eP B.ew B.eK I hs h1 h2
    obtain ⟨z, p, hp, rp, rz⟩ := (q.get h2 h3).1 d hg
    exact ⟨dd.typeIs, wpAny_getItem_heap (nroom B.rm) (n_key B.eK I hs r2 h3 h4) dd hp ⟨z, H, I.tok _, rp, c z H d M F (Same.refl F) hs hm rz h⟩⟩
/-- x[i]: a list, a tuple, a dict -/
def rIxA : R2D := fun x y M Q => match dctD M x with
  | some (n, kvs) => dkey n y ∧ (match dget kvs y with | some d => Q d M | none => False)
  | none => rIx x y M Q
open PyProof.Rows in
theorem tail_of {prog : Program} {w : World} {A : Around} {E : Value → Shared → Prop} {s : Shared} {value slice : Expr} {o i : Value} {T id : String} {Q : Value → Shared → Prop} (hT : s.TypeIs o T)
    (hl : typeLookup (.type T) "__getitem__" = pure (some (.builtin id))) (hs : subscripted slice false o i = operate [o, i] (getItem o i)) (h₂ : wpAny (model prog w) A (getItem o i) Q E s) : wpAny (model prog w) A (subscriptTail value slice o i) Q E s := by
  unfold subscriptTail
  refine wpAny_bind ?_
  rw [getitemInPython_of_ne hT.not_modules]
  refine wpAny_bind (wpAny_specialOf hT hl ?_)
  have fin : wpAny (model prog w) A (subscripted slice false o i) (fun r s₃ => wpAny (model prog w) A (letTemporaryGo value o r >>= fun _ => pure r) Q E s₃) E s := by
    rw [hs]
    exact wpAny_operating (wpAny_mono h₂ (fun r s₃ h₃ => wpAny_bind (wpAny_letTemporaryGo (wpAny_pure h₃))) fun _ _ x => x)
  first
    | exact wpAny_pure (wpAny_bind fin)
    | exact wpAny_bind (wpAny_pure (wpAny_bind fin))
    | exact wpAny_bind fin
theorem de_ixA {k : Nat} (B : Bd G k X W) (ha : DE G X W a wa) (hb : DE G X W b wb) (hs : PlainIx b) : DE G X W (.Subscript a b pos) (wBin rIxA wa wb) := by
  obtain ⟨ta, p1, q1⟩ := ha.ex
  obtain ⟨tb, p2, q2⟩ := hb.ex
  have key : IxR X (fun x y H Qv => (rIxL X.K x y H Qv ∨ rIxT X.K x y H Qv) ∨ ∃ (F : Hp) (M : Mem) (dx dy : D) (Q : QE) (d : D) (n : Bool) (kvs : List (D × D)), Same F H ∧ RepM G F H M ∧ Rf G F x dx ∧ Rf G F y dy ∧ (∀ z H' d M' F', Same F F' → Same F' H' → RepM G F' H' M' → Rf G F' z d → Q d M' → Qv z H') ∧ dctD M dx = some (n, kvs) ∧ dkey n dy ∧ dget kvs dy = some d ∧ Q d M) := by
    intro value slice pins s σ H x y v u Q I rx ry h hs
    rcases h with (h | h) | ⟨F, M, dx, dy, Q', d, n, kvs, h1, h2, h3, h4, h5, h6, h7, h8, h9⟩
    · exact ix_list value slice pins s σ H x y v u Q I rx ry h hs
    · exact ix_tup value slice pins s σ H x y v u Q I rx ry h hs
    · obtain ⟨hT, hg⟩ := d_item B I rx ry h1 h2 h3 h4 h5 h6 h7 h8 h9
      exact tail_of hT PySem.F.slot_dict_getitem.lookup hs hg
  refine ⟨_, pe_ix key p1 p2 hs, rdBin q1 q2 fun F σ H ρ M x y dx dy Q Qv k rx ry c h => ?_⟩
  unfold rIxA at h
  split at h
  · next n kvs hd =>
    obtain ⟨hk, h⟩ := h
    split at h
    · next d hg => exact .inr ⟨F, M, dx, dy, Q, d, n, kvs, k.same, k.mem, rx, ry, fun z H' d M' F' e s m => c z H' d M' F' e ⟨s, k.env.mono e, m⟩, hd, hk, hg, h⟩
    · exact h.elim
  · unfold rIx at h
    rw [B.eK]
    refine .inl ?_
    split at h
    · next i =>
      cases ry
      split at h
      · next ds =>
        split at h
        · next d hd =>
          obtain ⟨a, xs, rfl, h1, h2⟩ := tup_sq k rx
          obtain ⟨v, e, r⟩ := h2.atI hd
          exact .inr ⟨a, xs, i, v, rfl, rfl, h1, e, c v H d M F (Same.refl F) k r h⟩
        · exact h.elim
      · split at h
        · next ds hv =>
          split at h
          · next d hd =>
            obtain ⟨a, xs, rfl, h1, h2⟩ := vw_sq k rx hv
            obtain ⟨v, e, r⟩ := h2.atI hd
            exact .inl ⟨a, xs, i, v, rfl, rfl, h1, e, c v H d M F (Same.refl F) k r h⟩
          · exact h.elim
        · exact h.elim
    · exact h.elim
/-- {}: its kind is chosen -/
def wDict0 (n : Bool) : DW := fun _ M Q _ => ∀ p, M p = none → Q (.ptr p) (M.set p (.dct n []))
theorem de_dict0 {k : Nat} (B : Bd G k X W) (n : Bool) : DE G X W (.Dict [] [] pos) (wDict0 n) := by
  cases n with
  | false => exact ⟨_, pe_dnewK, fun F σ H ρ M Q Ex Qv k l c h => fun p hp => c _ _ _ _ F (Same.refl F) (k.own (c := .dct false []) hp ⟨[], upd_same, .nil⟩) (.ptr p) (h p (k.mem.fresh hp))⟩
  | true =>
    have key : PE X (.Dict [] [] pos) (fun _ H Q => ∀ p, H p = none → Q (.ref p) (L2.upd H p (hoN G p []))) := ⟨fun pins s σ H Q I h =>
      wpAny_Dict_empty ⟨.ref s.heap.objs.size, _, I.laid (a := s.heap.objs.size) (o := hoN G s.heap.objs.size []) (t' := s.toks) (fun _ _ q => Heap.get?_push_of_some _ q) (Nat.le_refl _)
        (n_new B.eP B.ew .nil (Nat.zero_le _) (beq_eq_false_iff_ne.mpr (Ne.symm (Nat.ne_of_lt I.big))) (Heap.DictOfH.new s.heap)), rfl, h _ (I.hok.fresh (Nat.le_refl _))⟩⟩
    exact ⟨_, key, fun F σ H ρ M Q Ex Qv k l c h => fun p hp => c _ _ _ _ F (Same.refl F) (k.own (c := .dct true []) hp ⟨[], upd_same, .nil⟩) (.ptr p) (h p (k.mem.fresh hp))⟩
end
end DL
namespace DL
open PySem PySem.Spec L2
section
variable {G : Gx} {X : Cx} {W : WX} {a b c e f o tg iter elt i : Expr} {es rest ifs : List Expr} {pos p2 : Pos} {wa wb wc we wo wi wf : DW} {st : Stmt} {sts : List Stmt} {ws : DWS}

/-! ### a store at an item: of a list, of a dict -/
def putItem (x i v : D) (M : Mem) (Q : Mem → Prop) : Prop := match x with
  | .ptr p => (match M p with
    | some (.lst xs) => (match i with
      | .int k => (match ixN xs.length k with
        | some j => Q (M.set p (.lst (xs.set j v)))
        | none => False)
      | _ => False)
    | some (.dct n kvs) => dkey n i ∧ kvs.length < sizeLine ∧ Q (M.set p (.dct n (dput kvs i v)))
    | _ => False)
  | _ => False
theorem dput_len (kvs : List (D × D)) (k v : D) : (dput kvs k v).length ≤ kvs.length + 1 := by
  unfold dput
  split
  · simp
  · simp
theorem put_run {kb : Nat} {pins : List (Addr × Obj)} {s : Shared} {σ : St} {H F : Hp} {M : Mem} {x y z : V} {xv yv zv : Value} {dx dy dz : D} {Q : Mem → Prop} {Qv : Hp → Prop} (B : Bd G kb X W) (I : Inv X pins σ H s) (rx : RelV x xv) (ry : RelV y yv) (rz : RelV z zv) (ρ : Env') (k : Ok G F σ H ρ M)
    (r1 : Rf G F x dx) (r2 : Rf G F y dy) (r3 : Rf G F z dz) (c : ∀ H' M', Ok G F σ H' ρ M' → Q M' → Qv H') (h : putItem dx dy dz M Q) : wpAny (model X.prog X.w) X.A (setItem xv yv zv) (fun _ s' => ∃ H', Inv X pins σ H' s' ∧ Qv H') X.xe s := by
  unfold putItem at h
  split at h
  · next p =>
    cases r1
    split at h
    · next xs hm =>
      split at h
      · next kk =>
        split at h
        · next j hj =>
          obtain ⟨_, ys, hH, r⟩ := k.mem p _ hm
          cases r2
          rw [← r.length] at hj
          exact set_list pins s σ H _ _ _ _ _ _ Qv I rx ry rz ⟨p, ys, kk, j, rfl, rfl, hH, hj, c _ _ (k.chg (c' := .lst (xs.set j dz)) hm ⟨_, upd_same, r.set j r3⟩) h⟩
        · exact h.elim
      · exact h.elim
    · next n kvs hm =>
      obtain ⟨hk, hl, h⟩ := h
      obtain rfl : xv = Value.ref p := rx
      obtain ⟨hF, hc⟩ := k.mem p _ hm
      cases n with
      | false =>
        obtain ⟨ks, hH, r⟩ := hc
        obtain ⟨kk, rfl, rfl⟩ := dkey_K r2 hk
        refine d_setItem (hu_of B.rm) I (DPut.k hH (by rw [r.length]; exact hl)) ry rz fun s' I' => ⟨_, I', c _ _ (k.chg (c' := .dct false (dput kvs (kD kk) dz)) hm ⟨_, upd_same, r.put r3⟩) h⟩
      | true =>
        obtain ⟨es, hH, r⟩ := hc
        obtain ⟨b, nk, rfl, h3, h4⟩ := dkey_N r2 hk
        obtain rfl : yv = Value.ref b := ry
        obtain ⟨hz, hsm, xs, q, dd⟩ := n_dict B.eP B.ew B.eK I k.same (.inl hH) r
        have hz2 : (esPut es nk b z).length ≤ sizeLine := by
          have := esPut_len es nk b z
          have := r.length
          omega
        refine wpAny_setItem_heap (hsz := by rw [← Paired.length q]; exact hz) (nroom B.rm) (n_key B.eK I k.same r2 h3 h4) dd fun h' dd' hs' => ⟨L2.upd H p (hoN G p (esPut es nk b z)), ?_, ?_⟩
        · exact d_write I (by rw [hH]; exact True.intro) hs' (let ⟨q, _, _, hq, _⟩ := dd'; ⟨q, hq⟩) (n_new B.eP B.ew (q.put nk b rz) hz2 hsm dd')
        · exact c _ _ (k.chg (c' := .dct true (dput kvs dy dz)) hm ⟨_, upd_same, r.put h3 h4 r2 r3⟩) h
    · exact h.elim
  · exact h.elim
/-- o[i] = e -/
def sPut (wo wi we : DW) : DWS := fun k ρ M => we ρ M (fun v M1 => wo ρ M1 (fun x M2 => wi ρ M2 (fun y M3 => putItem x y v M3 (fun M4 => k.nx ρ M4)) k.ex) k.ex) k.ex
theorem ds_put {kb : Nat} {p' : Pos} (B : Bd G kb X W) (ho : DE G X W o wo) (hi : DE G X W i wi) (he : DE G X W e we) (hs : swapsWith e (some (.Subscript o i p')) pos.line X.env = pure false := by rfl) : DS G X W (.Assign [.Subscript o i p'] e pos) (sPut wo wi we) := by
  obtain ⟨to, po, qo⟩ := ho.ex
  obtain ⟨ti, pi, qi⟩ := hi.ex
  obtain ⟨te, pe, qe⟩ := he.ex
  refine ⟨fun D σ H => te σ H fun v H1 => to σ H1 fun x H2 => ti σ H2 fun y H3 => ∃ F ρ M dx dy dz Q, Ok G F σ H3 ρ M ∧ Rf G F x dx ∧ Rf G F y dy ∧ Rf G F v dz ∧ (∀ H' M', Ok G F σ H' ρ M' → Q M' → D.nx σ H') ∧ putItem dx dy dz M Q, ⟨fun pins s σ H D I h => ?_⟩, fun F σ H ρ M k D ok l en h => ?_⟩
  · refine wpAny_Assign_Subscript (thn (pe.run pins s σ H _ I h) fun r s1 ⟨v, H1, I1, rv, q1⟩ => thn (po.run pins s1 σ H1 _ I1 q1) fun u s2 ⟨x, H2, I2, rx, q2⟩ => thn (pi.run pins s2 σ H2 _ I2 q2) fun iv s3 ⟨y, H3, I3, ry, F, ρ, M, dx, dy, dz, Q, k, r1, r2, r3, c, h⟩ => ?_) hs
    exact thn (put_run B I3 rx ry rv ρ k r1 r2 r3 c h) fun _ s4 ⟨H4, I4, q4⟩ => ⟨σ, H4, I4, q4⟩
  · exact qe F σ H ρ M _ _ _ ok l (fun v H1 dz M1 F1 e1 k1 r1 h1 => qo F1 σ H1 ρ M1 _ _ _ k1 (l.mono e1) (fun x H2 dx M2 F2 e2 k2 r2 h2 => qi F2 σ H2 ρ M2 _ _ _ k2 (l.mono (e1.trans e2)) (fun y H3 dy M3 F3 e3 k3 r3 h3 =>
      ⟨F3, ρ, M3, dx, dy, dz, _, k3, r2.mono e3, r3, r1.mono (e2.trans e3), fun H' M' k' q => en.nx σ H' ρ M' F3 ((e1.trans e2).trans e3) k' q, h3⟩) h2) h1) h
/-- o[i] += e, o a list of ints -/
def sAugI (wo wi we : DW) : DWS := fun k ρ M => wo ρ M (fun x M1 => wi ρ M1 (fun y M2 => True ∧ ∃ i, y = .int i ∧ 0 ≤ i ∧ ∃ ds, vw M2 x = some ds ∧ ∃ old, atI ds i = some old ∧ we ρ M2 (fun v M4 => (match old, v with
  | .int m, .int n => putItem x y (.int (m + n)) M4 (fun M5 => k.nx ρ M5)
  | _, _ => False)) k.ex) k.ex) k.ex
theorem ds_augI {kb : Nat} {p' : Pos} (B : Bd G kb X W) (ho : DE G X W o wo) (hi : DE G X W i wi) (he : DE G X W e we) (ha : ∀ ov iv new, augStore i ov iv new = (do holding [new, ov, iv] (setItem ov iv new); release [new, ov, iv] []; pure .next) := by intros; rfl) :
    DS G X W (.AugAssign (.Subscript o i p') .Add e pos) (sAugI wo wi we) := by
  obtain ⟨to, po, qo⟩ := ho.ex
  obtain ⟨ti, pi, qi⟩ := hi.ex
  obtain ⟨te, pe, qe⟩ := he.ex
  have hget : PGet X (fun x y H Q => ∃ p xs i v, x = .ref p ∧ y = .int i ∧ 0 ≤ i ∧ SqL X.K H p xs ∧ atI xs i = some v ∧ Q v H) := by
    intro pins s σ H x y ov iv Q I rx ry h
    obtain ⟨p, xs, i, v, rfl, rfl, h0, hq, he, q⟩ := h
    obtain ⟨its, r, pl, hz⟩ := I.list hq
    cases rx
    obtain ⟨t, rfl⟩ := ry
    obtain ⟨j, h1, h2, h3, h4, h5⟩ := atI_get he
    obtain ⟨w, ew, rw'⟩ := r.get h2
    have hl := r.length
    have hn := line63
    have hj : i.toNat = j := by
      rw [seqIndex_of h0 h5] at h1
      exact Option.some.inj h1
    exact wpAny_getItem_list pl.isList h0 (by omega) (by rw [hj]; simpa using ew) ⟨v, H, I, rw', q⟩
  refine ⟨fun D σ H => to σ H fun x H1 => ti σ H1 fun y H2 => (∃ p xs i v, x = .ref p ∧ y = .int i ∧ 0 ≤ i ∧ SqL X.K H2 p xs ∧ atI xs i = some v ∧ te σ H2 fun z H3 => ∃ F ρ M dx dy m n Q, v = .int m ∧ z = .int n ∧ Ok G F σ H3 ρ M ∧ Rf G F x dx ∧ Rf G F y dy ∧ (∀ H' M', Ok G F σ H' ρ M' → Q M' → D.nx σ H') ∧ putItem dx dy (.int (m + n)) M Q), ⟨fun pins s σ H D I h => ?_⟩, fun F σ H ρ M k D ok l en h => ?_⟩
  · refine wpAny_AugAssign_SubscriptAny (thn (po.run pins s σ H _ I h) fun ov s1 ⟨x1, H1, I1, r1, q1⟩ => ?_) ha
    refine thn (pi.run pins s1 σ H1 _ I1 q1) fun iv s2 ⟨x2, H2, I2, r2, q2⟩ => ?_
    obtain ⟨p, xs, ii, v, rfl, rfl, h0, hq, hat, q2⟩ := q2
    refine thn (hget pins s2 σ H2 _ _ ov iv (fun z H' => z = v ∧ H' = H2) I2 r1 r2 ⟨p, xs, ii, v, rfl, rfl, h0, hq, hat, rfl, rfl⟩) fun old s3 ⟨x3, H3, I3, r3, e3, e3'⟩ => ?_
    subst e3 e3'
    refine thn (pe.run pins s3 σ _ _ I3 q2) fun v s4 ⟨x4, H4, I4, r4, F, ρ, M, dx, dy, m, n, Q, em, en, k, s1', s2', c, hp⟩ => ?_
    subst em en
    refine thn (iop_add pins s4 σ H4 _ _ old v (fun z H' => z = .int (m + n) ∧ H' = H4) I4 r3 r4 ⟨m, n, rfl, rfl, rfl, rfl⟩) fun new s5 ⟨x5, H5, I5, r5, e5, e5'⟩ => ?_
    subst e5 e5'
    exact thn (put_run B I5 r1 r2 r5 ρ k s1' s2' (.int _) c hp) fun _ s6 ⟨H6, I6, q6⟩ => ⟨σ, H6, I6, q6⟩
  · exact qo F σ H ρ M _ _ _ ok l (fun x H1 dx M1 F1 e1 k1 r1 h1 => qi F1 σ H1 ρ M1 _ _ _ k1 (l.mono e1) (fun y H2 dy M2 F2 e2 k2 r2 h2 => by
      obtain ⟨hlst, ii, rfl, h0, ds, hds, old, hat, h2⟩ := h2
      cases r2
      obtain ⟨a, xs, rfl, h4, h5⟩ := vw_sq k2 (r1.mono e2) hds
      obtain ⟨v, hv, rv⟩ := h5.atI hat
      refine ⟨a, xs, ii, v, rfl, rfl, h0, by rw [B.eK]; exact h4, hv, qe F2 σ H2 ρ M2 _ _ _ k2 (l.mono (e1.trans e2)) (fun z H3 dz M3 F3 e3 k3 r3 h3 => ?_) h2⟩
      split at h3
      · next m n => cases rv; cases r3; exact ⟨F3, ρ, M3, dx, .int ii, m, n, _, rfl, rfl, k3, (r1.mono e2).mono e3, .int _, fun H' M' k' q => en.nx σ H' ρ M' F3 ((e1.trans e2).trans e3) k' q, h3⟩
      · exact h3.elim) h1) h
end
end DL
namespace DL
open PySem PySem.Spec L2
section
variable {G : Gx} {X : Cx} {W : WX} {a b c e f o tg iter elt i : Expr} {es rest ifs : List Expr} {pos p2 : Pos} {wa wb wc we wo wi wf : DW} {st : Stmt} {sts : List Stmt} {ws : DWS}

/-! ### d.get(k), d.get(k, x) -/
theorem dct_type {k : Nat} {pins : List (Addr × Obj)} {s : Shared} {σ : St} {H F : Hp} {M : Mem} {x : V} {v : Value} {dx : D} {n : Bool} {kvs : List (D × D)} (B : Bd G k X W) (I : Inv X pins σ H s) (rx : RelV x v) (hs : Same F H) (hm : RepM G F H M) (r1 : Rf G F x dx) (hd : dctD M dx = some (n, kvs)) :
    ∃ a, v = .ref a ∧ s.TypeIs v "dict" ∧ (∀ b, v = .ref b → ∃ ob, s.heap.get? b = some ob ∧ ob.dict = none) := by
  obtain ⟨a, rfl, hc⟩ := dct_at hs hm r1 hd
  obtain rfl : v = Value.ref a := rx
  rcases hc with ⟨rfl, ks, h1, h2⟩ | ⟨rfl, es, h1, h2⟩
  · obtain ⟨t1, t2, _⟩ := isD_at I (show IsD H a from .inl ⟨ks, h1⟩)
    exact ⟨a, rfl, t1, t2⟩
  · obtain ⟨hz, hsm, xs, q, dd⟩ := n_dict B.eP B.ew B.eK I hs h1 h2
    refine ⟨a, rfl, dd.typeIs, fun b hb => ?_⟩
    cases hb
    obtain ⟨o, es', ep, h3, h4, _⟩ := dd
    exact ⟨o, h3, h4.2.1⟩
theorem d_get1D {k : Nat} {pins : List (Addr × Obj)} {s : Shared} {σ : St} {H F : Hp} {M : Mem} {x y : V} {v u : Value} {dx dy : D} {n : Bool} {kvs : List (D × D)} {Q : QE} {Qv : VK} (B : Bd G k X W) (I : Inv X pins σ H s) (rx : RelV x v) (ry : RelV y u) (hs : Same F H) (hm : RepM G F H M) (r1 : Rf G F x dx) (r2 : Rf G F y dy)
    (c : ∀ z H' d M' F', Same F F' → Same F' H' → RepM G F' H' M' → Rf G F' z d → Q d M' → Qv z H') (hd : dctD M dx = some (n, kvs)) (hk : dkey n dy) (h : Q ((dget kvs dy).getD .non) M) : wpAny (model X.prog X.w) X.A (call (.builtin "dict.get") [v, u]) (EP X pins σ Qv) X.xe s := by
  obtain ⟨a, rfl, hc⟩ := dct_at hs hm r1 hd
  obtain rfl : v = Value.ref a := rx
  rcases hc with ⟨rfl, ks, h1, h2⟩ | ⟨rfl, es, h1, h2⟩
  · obtain ⟨kk, rfl, rfl⟩ := dkey_K r2 hk
    have g : DGet H a (kV kk) (valV ks kk) := .inl ⟨ks, kk, h1, rfl, rfl⟩
    refine d_get1 (hu_of B.rm) I g ry fun w' s' I' rw' => ⟨_, H, I', rw', ?_⟩
    cases hg : dget kvs (kD kk) with
    | none => rw [(h2.get kk).2 hg]; rw [hg] at h; exact c _ H _ M F (Same.refl F) hs hm .non h
    | some d => obtain ⟨z, hz, rz⟩ := (h2.get kk).1 d hg; rw [hz]; rw [hg] at h; exact c _ H _ M F (Same.refl F) hs hm rz h
  · obtain ⟨b, nk, rfl, h3, h4⟩ := dkey_N r2 hk
    obtain rfl : u = Value.ref b := ry
    obtain ⟨hz, hsm, xs, q, dd⟩ := n_dict B.eP B.ew B.eK I hs h1 h2
    refine call_meetsIn PySem.F.slot_dict_get dd.typeIs PySem.F.entry_dict_get (PySem.F.args_dict_get_2 _ _) (meetsH_dict_get (nestedKind X.prog X.w) a b hsm) ⟨nroom B.rm, nk, xs, n_key B.eK I hs r2 h3 h4, dd, ?_⟩
    cases hg : dget kvs dy with
    | none => rw [(q.get h2 h3).2 hg]; rw [hg] at h; exact ⟨.non, H, I.tok _, rfl, c _ H _ M F (Same.refl F) hs hm .non h⟩
    | some d => obtain ⟨z, p, hz, rp, rz⟩ := (q.get h2 h3).1 d hg; rw [hz]; rw [hg] at h; exact ⟨z, H, I.tok _, rp, c _ H _ M F (Same.refl F) hs hm rz h⟩
theorem d_get2D {k : Nat} {pins : List (Addr × Obj)} {s : Shared} {σ : St} {H F : Hp} {M : Mem} {x y t : V} {v u r : Value} {dx dy dt : D} {n : Bool} {kvs : List (D × D)} {Q : QE} {Qv : VK} (B : Bd G k X W) (I : Inv X pins σ H s) (rx : RelV x v) (ry : RelV y u) (rt : RelV t r) (hs : Same F H) (hm : RepM G F H M) (r1 : Rf G F x dx) (r2 : Rf G F y dy) (r3 : Rf G F t dt)
    (c : ∀ z H' d M' F', Same F F' → Same F' H' → RepM G F' H' M' → Rf G F' z d → Q d M' → Qv z H') (hd : dctD M dx = some (n, kvs)) (hk : dkey n dy) (h : Q ((dget kvs dy).getD dt) M) : wpAny (model X.prog X.w) X.A (call (.builtin "dict.get") [v, u, r]) (EP X pins σ Qv) X.xe s := by
  obtain ⟨a, rfl, hc⟩ := dct_at hs hm r1 hd
  obtain rfl : v = Value.ref a := rx
  rcases hc with ⟨rfl, ks, h1, h2⟩ | ⟨rfl, es, h1, h2⟩
  · obtain ⟨kk, rfl, rfl⟩ := dkey_K r2 hk
    have g : DGet H a (kV kk) (valV ks kk) := .inl ⟨ks, kk, h1, rfl, rfl⟩
    refine d_get2 (hu_of B.rm) I g ry rt fun w' s' I' rw' => ⟨_, H, I', rw', ?_⟩
    cases hg : dget kvs (kD kk) with
    | none => rw [(h2.get kk).2 hg]; rw [hg] at h; exact c _ H _ M F (Same.refl F) hs hm r3 h
    | some d => obtain ⟨z, hz, rz⟩ := (h2.get kk).1 d hg; rw [hz]; rw [hg] at h; exact c _ H _ M F (Same.refl F) hs hm rz h
  · obtain ⟨b, nk, rfl, h3, h4⟩ := dkey_N r2 hk
    obtain rfl : u = Value.ref b := ry
    obtain ⟨hz, hsm, xs, q, dd⟩ := n_dict B.eP B.ew B.eK I hs h1 h2
    refine call_meetsIn PySem.F.slot_dict_get dd.typeIs PySem.F.entry_dict_get (PySem.F.args_dict_get_3 _ _ _) (meetsH_dict_get_default (nestedKind X.prog X.w) a b hsm r) ⟨nroom B.rm, nk, xs, n_key B.eK I hs r2 h3 h4, dd, ?_⟩
    cases hg : dget kvs dy with
    | none => rw [(q.get h2 h3).2 hg]; rw [hg] at h; exact ⟨_, H, I.tok _, rt, c _ H _ M F (Same.refl F) hs hm r3 h⟩
    | some d => obtain ⟨z, p, hz, rp, rz⟩ := (q.get h2 h3).1 d hg; rw [hz]; rw [hg] at h; exact ⟨z, H, I.tok _, rp, c _ H _ M F (Same.refl F) hs hm rz h⟩
/-- d.get(k) -/
def wGet1 (wo we : DW) : DW := fun ρ M Q Ex => wo ρ M (fun x M1 => we ρ M1 (fun y M2 => (dctD M1 x).isSome = true ∧ match dctD M2 x with
  | some (n, kvs) => dkey n y ∧ Q ((dget kvs y).getD .non) M2
  | none => False) Ex) Ex
def wGet2 (wo we wf : DW) : DW := fun ρ M Q Ex => wo ρ M (fun x M1 => we ρ M1 (fun y M2 => wf ρ M2 (fun z M3 => (dctD M1 x).isSome = true ∧ match dctD M3 x with
  | some (n, kvs) => dkey n y ∧ Q ((dget kvs y).getD z) M3
  | none => False) Ex) Ex) Ex
/-- d.get(k): the receiver is looked at first -/
def wGet1' (wo we : DW) : DW := fun ρ M Q Ex => wo ρ M (fun x M1 => (dctD M1 x).isSome = true ∧ we ρ M1 (fun y M2 => match dctD M2 x with
  | some (n, kvs) => dkey n y ∧ Q ((dget kvs y).getD .non) M2
  | none => False) Ex) Ex
def wGet2' (wo we wf : DW) : DW := fun ρ M Q Ex => wo ρ M (fun x M1 => (dctD M1 x).isSome = true ∧ we ρ M1 (fun y M2 => wf ρ M2 (fun z M3 => match dctD M3 x with
  | some (n, kvs) => dkey n y ∧ Q ((dget kvs y).getD z) M3
  | none => False) Ex) Ex) Ex
theorem de_get1 {k : Nat} {apos cpos : Pos} (B : Bd G k X W) (ho : DE G X W o wo) (he : DE G X W e we) (m : M1 X o "get" apos e cpos) : DE G X W (.Call (.Attribute o "get" apos) [e] [] cpos) (wGet1' wo we) := by
  obtain ⟨to, po, qo⟩ := ho.ex
  obtain ⟨te, pe, qe⟩ := he.ex
  refine DE.of fun pins s σ H F ρ M Q Ex Qv I k l c h => ?_
  have key := qo F σ H ρ M _ Ex (fun x H1 => ∃ F1 dx M1, Same F F1 ∧ Ok G F1 σ H1 ρ M1 ∧ Rf G F1 x dx ∧ (dctD M1 dx).isSome = true ∧ we ρ M1 (fun y M2 => match dctD M2 dx with
    | some (n, kvs) => dkey n y ∧ Q ((dget kvs y).getD .non) M2
    | none => False) Ex) k l (fun v H' d M' F' e k' r q => ⟨F', d, M', e, k', r, q⟩) h
  refine wpAny_Call_method m.base m.few m.line PySem.F.plainAttrs_dict PySem.F.slot_dict_get PySem.F.type_dict_get (thn (po.run pins s σ H _ I key) fun u s1 ⟨x, H1, I1, rx, F1, dx, M1, e1, k1, r1, hd1, q1⟩ => ?_)
  obtain ⟨⟨n, kvs⟩, hd1⟩ := Option.isSome_iff_exists.mp hd1
  obtain ⟨a, rfl, t1, t2⟩ := dct_type B I1 rx k1.same k1.mem r1 hd1
  refine ⟨t1, t2, ?_⟩
  rw [m.trees]
  have key2 := qe F1 σ H1 ρ M1 _ Ex (fun y H2 => ∃ F2 dy M2, Same F1 F2 ∧ Ok G F2 σ H2 ρ M2 ∧ Rf G F2 y dy ∧ match dctD M2 dx with
    | some (n, kvs) => dkey n dy ∧ Q ((dget kvs dy).getD .non) M2
    | none => False) k1 (l.mono e1) (fun v H' d M' F' e k' r q => ⟨F', d, M', e, k', r, q⟩) q1
  refine Calls.callWith_builtin rfl (Calls.evalArgs_plain (Calls.spliced_cons (thn (pe.run pins s1 σ H1 _ I1 key2) fun iv s2 ⟨y, H2, I2, ry, F2, dy, M2, e2, k2, r2, q2⟩ => Calls.spliced_nil ?_)))
  split at q2
  · next n2 kvs2 hd2 =>
    exact d_get1D B I2 rx ry k2.same k2.mem (r1.mono e2) r2 (fun z H' d M' F' e s m rz q => c z H' d M' F' ((e1.trans e2).trans e) ⟨s, k2.env.mono e, m⟩ rz q) hd2 q2.1 q2.2
  · exact q2.elim
theorem de_get2 {k : Nat} {apos cpos : Pos} (B : Bd G k X W) (ho : DE G X W o wo) (he : DE G X W e we) (hf : DE G X W f wf) (m : M2 X o "get" apos e f cpos) : DE G X W (.Call (.Attribute o "get" apos) [e, f] [] cpos) (wGet2' wo we wf) := by
  obtain ⟨to, po, qo⟩ := ho.ex
  obtain ⟨te, pe, qe⟩ := he.ex
  obtain ⟨tf, pf, qf⟩ := hf.ex
  refine DE.of fun pins s σ H F ρ M Q Ex Qv I k l c h => ?_
  have key := qo F σ H ρ M _ Ex (fun x H1 => ∃ F1 dx M1, Same F F1 ∧ Ok G F1 σ H1 ρ M1 ∧ Rf G F1 x dx ∧ (dctD M1 dx).isSome = true ∧ we ρ M1 (fun y M2 => wf ρ M2 (fun z M3 => match dctD M3 dx with
    | some (n, kvs) => dkey n y ∧ Q ((dget kvs y).getD z) M3
    | none => False) Ex) Ex) k l (fun v H' d M' F' e k' r q => ⟨F', d, M', e, k', r, q⟩) h
  refine wpAny_Call_method m.base m.few m.line PySem.F.plainAttrs_dict PySem.F.slot_dict_get PySem.F.type_dict_get (thn (po.run pins s σ H _ I key) fun u s1 ⟨x, H1, I1, rx, F1, dx, M1, e1, k1, r1, hd1, q1⟩ => ?_)
  obtain ⟨⟨n, kvs⟩, hd1⟩ := Option.isSome_iff_exists.mp hd1
  obtain ⟨a, rfl, t1, t2⟩ := dct_type B I1 rx k1.same k1.mem r1 hd1
  refine ⟨t1, t2, ?_⟩
  rw [m.trees]
  have key2 := qe F1 σ H1 ρ M1 _ Ex (fun y H2 => ∃ F2 dy M2, Same F1 F2 ∧ Ok G F2 σ H2 ρ M2 ∧ Rf G F2 y dy ∧ wf ρ M2 (fun z M3 => match dctD M3 dx with
    | some (n, kvs) => dkey n dy ∧ Q ((dget kvs dy).getD z) M3
    | none => False) Ex) k1 (l.mono e1) (fun v H' d M' F' e k' r q => ⟨F', d, M', e, k', r, q⟩) q1
  refine Calls.callWith_builtin rfl (Calls.evalArgs_plain (Calls.spliced_cons (thn (pe.run pins s1 σ H1 _ I1 key2) fun iv s2 ⟨y, H2, I2, ry, F2, dy, M2, e2, k2, r2, q2⟩ => ?_)))
  have key3 := qf F2 σ H2 ρ M2 _ Ex (fun z H3 => ∃ F3 dz M3, Same F2 F3 ∧ Ok G F3 σ H3 ρ M3 ∧ Rf G F3 z dz ∧ match dctD M3 dx with
    | some (n, kvs) => dkey n dy ∧ Q ((dget kvs dy).getD dz) M3
    | none => False) k2 (l.mono (e1.trans e2)) (fun v H' d M' F' e k' r q => ⟨F', d, M', e, k', r, q⟩) q2
  refine Calls.spliced_cons (thn (pf.run pins s2 σ H2 _ I2 key3) fun fv s3 ⟨z, H3, I3, rz, F3, dz, M3, e3, k3, r3, q3⟩ => Calls.spliced_nil ?_)
  split at q3
  · next n2 kvs2 hd2 =>
    exact d_get2D B I3 rx ry rz k3.same k3.mem (r1.mono (e2.trans e3)) (r2.mono e3) r3 (fun z H' d M' F' e s m rz q => c z H' d M' F' (((e1.trans e2).trans e3).trans e) ⟨s, k3.env.mono e, m⟩ rz q) hd2 q3.1 q3.2
  · exact q3.elim

/-! ### an owned dict in a field becomes frozen -/
theorem Ok.lockD {F H : Hp} {σ : St} {ρ : Env'} {M : Mem} {p : Addr} {n : Bool} {ds : List (D × D)} (k : Ok G F σ H ρ M) (h : M p = some (.dct n ds)) : ∃ u, H p = some u ∧ Mut (some u) ∧ ∀ od, ∃ F', Same F F' ∧ Ok G F' σ (upd H p (.frz od u)) ρ (M.del p) ∧ Rf G F' (.ref p) (.dct n ds) := by
  obtain ⟨fF, hc⟩ := k.mem p _ h
  have go : ∀ {u : HO} (od : Obj), H p = some u → Same F (upd F p (.frz od u)) ∧ (Ok G (upd F p (.frz od u)) σ (upd H p (.frz od u)) ρ (M.del p)) := fun {u} od hu => by
    have e : Same F (upd F p (.frz od u)) := same_new fF
    refine ⟨e, ⟨fun b x q => ?_, k.env.mono e, fun a c q => ?_⟩⟩
    · by_cases hb : b = p
      · subst hb; rw [upd_same] at q ⊢; exact q
      · rw [upd_ne hb] at q ⊢; exact k.same b x q
    · by_cases ha : a = p
      · subst ha; rw [Mem.del_same] at q; cases q
      · rw [Mem.del_ne ha] at q; obtain ⟨h1, h2⟩ := k.mem a c q; exact ⟨by rw [upd_ne ha]; exact h1, (h2.mono e).at (upd_ne ha)⟩
  cases n with
  | false =>
    obtain ⟨ks, hH, r⟩ := hc
    refine ⟨_, hH, True.intro, fun od => ?_⟩
    obtain ⟨e, k'⟩ := go od hH
    exact ⟨_, e, k', .dK upd_same (r.mono e)⟩
  | true =>
    obtain ⟨es, hH, r⟩ := hc
    refine ⟨_, hH, True.intro, fun od => ?_⟩
    obtain ⟨e, k'⟩ := go od hH
    exact ⟨_, e, k', .dN upd_same (r.mono e)⟩
/-- slot i holds an instance; its field f an owned dict, that is frozen -/
def sLockF (i : Nat) (f : Str) (w : DWS) : DWS := fun k ρ M => match ρ[i]? with
  | some (some (.ptr x)) => (match M x with
    | some (.ins C fs) => (match fs.lookup f with
      | some (.ptr d) => (match M d with
        | some (.dct n ds) => w k ρ ((M.del d).set x (.ins C (putD f (.dct n ds) fs)))
        | _ => False)
      | _ => False)
    | _ => False)
  | _ => False
theorem RfF.re {F : Hp} {fs : List (Str × V)} {ds : List (Str × D)} (h : RfF G F fs ds) {f : Str} {v : V} {d : D} (r : Rf G F v d) (e : fs.lookup f = some v) : RfF G F fs (putD f d ds) := by
  induction fs generalizing ds with
  | nil => simp at e
  | cons p fs ih =>
    cases h with
    | cons h r' =>
      rename_i k v' d' ds
      show RfF G F _ (if k = f then _ else _)
      rw [List.lookup_cons] at e
      by_cases hk : k = f
      · subst hk
        rw [if_pos rfl]
        simp at e
        subst e
        exact .cons r r'
      · rw [if_neg hk]
        have : (f == k) = false := beq_eq_false_iff_ne.mpr (Ne.symm hk)
        rw [this] at e
        exact .cons h (ih r' e)
theorem dss_lockF {i : Nat} {f : Str} (h : DSs G X W sts ws) : DSs G X W sts (sLockF i f ws) := by
  obtain ⟨t, p, q⟩ := h.ex
  refine ⟨fun D σ H => ∃ d u, H d = some u ∧ Mut (some u) ∧ ∀ od, t D σ (upd H d (.frz od u)), ⟨fun pins s σ H D I ⟨d, u, hd, mu, hw⟩ => ?_⟩, fun F σ H ρ M k D ok l en h0 => ?_⟩
  · obtain ⟨od, I1⟩ := I.lock hd mu
    exact p.run pins s σ _ D I1 (hw od)
  · unfold sLockF at h0
    split at h0
    · next x hx =>
      split at h0
      · next C fs hm =>
        split at h0
        · next d hf =>
          split at h0
          · next n ds hd =>
            have ne : x ≠ d := fun e => by rw [e, hd] at hm; cases hm
            obtain ⟨_, dx, vs, hH, rr⟩ := ok.mem x _ hm
            obtain ⟨u, hu, mu, hw⟩ := ok.lockD hd
            refine ⟨d, u, hu, mu, fun od => ?_⟩
            obtain ⟨F', e, k', r'⟩ := hw od
            have hH' : upd H d (.frz od u) x = some (.ins C dx vs) := by rw [upd_ne ne]; exact hH
            obtain ⟨v, hv, rv⟩ := (rr.lookup f).1 _ hf
            cases rv
            have k2 : Ok G F' σ (upd H d (.frz od u)) ρ ((M.del d).set x (.ins C (putD f (.dct n ds) fs))) := ⟨k'.same, k'.env, fun a c q => by
              by_cases ha : a = x
              · subst ha
                rw [Mem.set_same] at q
                cases q
                have hmx : (M.del d) a = some (.ins C fs) := by rw [Mem.del_ne ne]; exact hm
                exact ⟨(k'.mem a _ hmx).1, dx, vs, hH', (rr.mono e).re r' hv⟩
              · rw [Mem.set_ne ha] at q; exact k'.mem a c q⟩
            exact q F' σ _ ρ _ k D k2 (l.mono e) (en.mono e) h0
          · exact h0.elim
        · exact h0.elim
      · exact h0.elim
    · exact h0.elim

/-! ### the keys of a frozen dict, walked -/
def ItkN (G : Gx) (d : Addr) (o : Obj) (es : List (NestedKey × Addr × V)) : It :=
  ⟨fun i H => H d = some (.frz o (hoN G d es)) ∧ i < es.length, fun i H x H' => H' = H ∧ ∃ k b v, es[i]? = some (k, b, v) ∧ x = .ref b, fun i H => H d = some (.frz o (hoN G d es)) ∧ es.length ≤ i⟩
theorem frzN {pins : List (Addr × Obj)} {σ : St} {H : Hp} {s : Shared} {d : Addr} {o : Obj} {es : List (NestedKey × Addr × V)} (I : Inv X pins σ H s) (h : H d = some (.frz o (hoN G d es))) :
    (d == sysModules) = false ∧ s.heap.get? d = some o ∧ o.ExactDict ∧ ∃ (es' : Array DictEntry) (ep : Nat), o.data = .dict es' ep ∧ es'.size = es.length ∧
      ∀ (i : Nat) (k : NestedKey) (b : Addr) (v : V), es[i]? = some (k, b, v) → ∃ (en : DictEntry), es'[i]? = some en ∧ en.key = .ref b := by
  obtain ⟨hd, ⟨xs, q, hz, hs, o', es', ep, ho, hx, hdt, he, _⟩, _⟩ := I.hok d _ h
  rw [hd] at ho
  cases ho
  refine ⟨hs, hd, hx, es', ep, hdt, ?_, fun i k b v e => ?_⟩
  · have l1 : es'.size = xs.length := size_of_entries he
    have l2 : es.length = xs.length := Paired.length q
    omega
  · obtain ⟨y, hy, e1, e2, _⟩ := paired_get q e
    have q := entry_at he i
    rw [hy] at q
    refine ⟨_, q, ?_⟩
    show Value.ref y.2.1 = Value.ref b
    rw [← e2]
theorem turn_keysN {P : Program} {w : World} {K : PySem.W.Frag} {tg : Expr} {d : Addr} {o : Obj} {es0 : Array DictEntry} {ep : Nat} {es : List (NestedKey × Addr × V)} (it : Addr) (hod : o.data = .dict es0 ep) : Turn P w K tg (ItkN G d o es) [it] it (fun i h => h.IsKeyIter it d i es.length ep) where
  mem := by simp
  obj := fun i h st b hb => by
    have e : b = it := by simpa using hb
    subst e
    obtain ⟨oi, e, c, dd⟩ := st
    exact ⟨oi, e, fun v z => by rw [dd] at z; cases z⟩
  keep := fun i h h' st k => st.at fun oi e => k it (by simp) oi e
  item := by
    intro X hP hw hK hc i pins s σ H E I hf st hg
    subst hP hw hK
    obtain ⟨hd, hi⟩ := hg
    obtain ⟨f0, f1, f2, f3, f4, f5⟩ := hf it (by simp)
    obtain ⟨hs, hgd, hx, es', ep', hdt, hsz, ent⟩ := frzN I hd
    obtain ⟨rfl, rfl⟩ := dict_ep hod hdt
    obtain ⟨⟨k, b, v⟩, hkv⟩ : ∃ p, es[i]? = some p := ⟨es[i], List.getElem?_eq_getElem hi⟩
    obtain ⟨en, hen, hkey⟩ := ent i k b v hkv
    refine next_key_item st hgd hdt hsz hen fun h' st' sb => ?_
    have I1 : Inv X pins σ H { s with heap := h' } := I.turned (t' := s.toks) (fun b ob hb e => (sb.2 b hb).trans e) f0 f1 f3 f4 f5
    obtain ⟨oi, e, c, dd⟩ := id st'
    exact ⟨en.key, rfl, go_of (s := { s with heap := h' }) e c dd (by decide) ⟨.ref b, H, I1, hkey, ⟨rfl, k, b, v, hkv, rfl⟩, st', fun b hb => (hf b hb).1⟩⟩
  done := by
    intro X hP hw hK hc i pins s σ H E I hf st hg
    subst hP hw hK
    obtain ⟨hd, hi⟩ := hg
    obtain ⟨f0, f1, f2, f3, f4, f5⟩ := hf it (by simp)
    obtain ⟨hs, hgd, hx, es', ep', hdt, hsz, ent⟩ := frzN I hd
    obtain ⟨rfl, rfl⟩ := dict_ep hod hdt
    exact next_key_end (I.ok.hd hc) st hgd hdt hsz hi fun h' eb => ⟨rfl, I.turned (t' := s.toks) (fun b ob hb e => eb b ob hb e) f0 f1 f3 f4 f5⟩
  self := fun A i s Q E st h => by
    refine wpAny_pyIter_slot st.typeIs F.slot_dict_keyiterator_iter (wpAny_call_entry F.slot_dict_keyiterator_iter st.typeIs F.entry_dict_keyiterator_iter ?_ (F.args_dict_keyiterator_iter_1 _))
    show wpAny _ _ (ret (.ref it)) _ _ s
    exact wpAny_pure ⟨_, rfl, "dict_keyiterator", _, st.typeIs, F.slot_dict_keyiterator_next.lookup, h⟩
/-- the keys of a frozen dict -/
def wiK (w : DW) : DWI := fun ρ M Q Ex => w ρ M (fun d M' => match d with
  | .dct _ kvs => Q (kvs.map (·.1)) (fun _ => True) M'
  | _ => False) Ex
theorem RfN.keyAt {F : Hp} {es : List (NestedKey × Addr × V)} {ds : List (D × D)} (h : RfN G F es ds) : ∀ {i : Nat} {d : D}, (ds.map (·.1))[i]? = some d → ∃ k b v, es[i]? = some (k, b, v) ∧ Rf G F (.ref b) d := by
  induction es generalizing ds with
  | nil => intro i d e; cases h; simp at e
  | cons p es ih =>
    intro i d e
    cases h with
    | cons hk h0 h1 r =>
      cases i with
      | zero => simp at e; subst e; exact ⟨_, _, _, rfl, h0⟩
      | succ i => exact ih r (by simpa using e)
theorem RfK.keyAt {F : Hp} {es : List (Key × V)} {ds : List (D × D)} (h : RfK G F es ds) : ∀ {i : Nat} {d : D}, (ds.map (·.1))[i]? = some d → ∃ k v, es[i]? = some (k, v) ∧ Rf G F (kV k) d := by
  induction es generalizing ds with
  | nil => intro i d e; cases h; simp at e
  | cons p es ih =>
    intro i d e
    cases h with
    | cons h1 r =>
      rename_i k v d' ds
      cases i with
      | zero => simp at e; subst e; refine ⟨k, v, rfl, ?_⟩; cases k with | inl i => exact .int i | inr x => exact .str x
      | succ i => exact ih r (by simpa using e)
theorem di_keys {kb : Nat} (B : Bd G kb X W) (h : DE G X W e we) : DI G X W tg e (wiK we) := by
  obtain ⟨t, p, q⟩ := h.ex
  have key : PI X tg e (fun σ H R => t σ H fun x H1 => ∃ d o, x = .ref d ∧ ((∃ kvs, H1 d = some (.frz o (.dK kvs)) ∧ R (Itk d o kvs) H1) ∨ ∃ es, H1 d = some (.frz o (hoN G d es)) ∧ R (ItkN G d o es) H1)) := by
    refine ⟨fun pins s σ H R I h => ?_⟩
    refine thn (p.run pins s σ H _ I h) fun u s1 ⟨x, H1, I1, rx, d, o, ex, q⟩ => ?_
    subst ex
    obtain rfl : u = Value.ref d := rx
    rcases q with ⟨kvs, hd, q⟩ | ⟨es, hd, q⟩
    · obtain ⟨hs, hgd, hx, es, ep, vs, hdt, hsz, kv, hm⟩ := I1.frzK hd
      refine iter_keys hs hgd hx hdt (pi_one (tk := s1.toks) I1 _ (turn_keys _ hdt) ⟨_, Heap.get?_push_size _ rfl, rfl, ?_⟩ q)
      rw [hsz] <;> rfl
    · obtain ⟨hs, hgd, hx, es', ep, hdt, hsz, ent⟩ := frzN I1 hd
      refine iter_keys hs hgd hx hdt (pi_one (tk := s1.toks) I1 _ (turn_keysN _ hdt) ⟨_, Heap.get?_push_size _ rfl, rfl, ?_⟩ q)
      rw [hsz] <;> rfl
  refine ⟨_, key, fun F σ H ρ M Q Ex R ok l c h0 => q F σ H ρ M _ Ex _ ok l (fun v H' d M' F' e ok' r h1 => ?_) h0⟩
  try dsimp only at h1
  split at h1
  · next n kvs =>
    cases r with
    | dK hF r =>
      rename_i a o ks
      refine ⟨a, o, rfl, .inl ⟨ks, ok'.same _ _ hF, c _ _ _ H' M' F' e ok' (fun i F2 σ2 H2 ρ2 M2 e2 ok2 _ => ⟨fun hi => ?_, fun hi => ⟨ok2.same _ _ (e2 _ _ hF), by rw [r.length]; simpa using hi⟩⟩) trivial h1⟩⟩
      obtain ⟨d, hd⟩ : ∃ d, (kvs.map (·.1))[i]? = some d := ⟨_, List.getElem?_eq_getElem hi⟩
      obtain ⟨k, v, hx, rx⟩ := r.keyAt hd
      refine ⟨⟨ok2.same _ _ (e2 _ _ hF), by rw [r.length]; simpa using hi⟩, fun y H3 hy => ⟨F2, d, Same.refl F2, ?_, hd, ?_⟩⟩
      · rw [hy.1]; exact fun _ _ _ k => k
      · obtain ⟨_, k', v', hk', rfl⟩ := hy
        rw [hx] at hk'; cases hk'; exact rx.mono e2
    | dN hF r =>
      rename_i a o es
      refine ⟨a, o, rfl, .inr ⟨es, ok'.same _ _ hF, c _ _ _ H' M' F' e ok' (fun i F2 σ2 H2 ρ2 M2 e2 ok2 _ => ⟨fun hi => ?_, fun hi => ⟨ok2.same _ _ (e2 _ _ hF), by rw [r.length]; simpa using hi⟩⟩) trivial h1⟩⟩
      obtain ⟨d, hd⟩ : ∃ d, (kvs.map (·.1))[i]? = some d := ⟨_, List.getElem?_eq_getElem hi⟩
      obtain ⟨k, b, v, hx, rx⟩ := r.keyAt hd
      refine ⟨⟨ok2.same _ _ (e2 _ _ hF), by rw [r.length]; simpa using hi⟩, fun y H3 hy => ⟨F2, d, Same.refl F2, ?_, hd, ?_⟩⟩
      · rw [hy.1]; exact fun _ _ _ k => k
      · obtain ⟨_, k', b', v', hk', rfl⟩ := hy
        rw [hx] at hk'; cases hk'; exact rx.mono e2
  · exact h1.elim
end
end DL
namespace DL
open PySem PySem.Spec L2

/-! ### data as the library's data -/
mutual
def D.py : D → PyData
  | .non => .none
  | .bl b => .bool b
  | .int i => .int i
  | .str x => .str x
  | .tup ds => .tuple (D.pys ds)
  | .lst ds => .list (D.pys ds)
  | .ptr _ => .none
  | .ty _ => .none
  | .dct _ _ => .none
  | .obj _ _ => .none
def D.pys : List D → List PyData
  | [] => []
  | d :: ds => D.py d :: D.pys ds
end
mutual
/-- plain data -/
def D.pl : D → Bool
  | .non => true
  | .bl _ => true
  | .int _ => true
  | .str _ => true
  | .tup ds => D.pls ds
  | .lst ds => D.pls ds
  | .ptr _ => false
  | .ty _ => false
  | .dct _ _ => false
  | .obj _ _ => false
def D.pls : List D → Bool
  | [] => true
  | d :: ds => D.pl d && D.pls ds
end
theorem pys_map : ∀ ds : List D, D.pys ds = ds.map D.py
  | [] => rfl
  | d :: ds => by simp [D.pys, pys_map ds]
theorem pls_all : ∀ ds : List D, D.pls ds = ds.all D.pl
  | [] => rfl
  | d :: ds => by simp [D.pls, pls_all ds]
/-- data that == may be asked of -/
def D.cok (d : D) : Bool := d.pl && SeqAt.shaped d.py
def D.eqb (x y : D) : Bool := PyData.eqv x.py y.py
section
variable {G : Gx} {F H : Hp}
mutual
theorem Rf.dp (e : Same F H) : ∀ (d : D) (v : V), Rf G F v d → d.pl = true → Dp G.K H v d.py
  | .non, _, r, _ => by cases r; exact .non
  | .bl b, _, r, _ => by cases r; exact .bl b
  | .int i, _, r, _ => by cases r; exact .int i
  | .str x, _, r, _ => by cases r; exact .str x
  | .tup ds, _, r, h => by cases r with | tup h1 h2 => exact .tup (sqT_mono e h1) (Rfs.dp e ds _ h2 h)
  | .lst ds, _, r, h => by cases r with | lst h1 h2 => exact .lst (e.seq h1) (Rfs.dp e ds _ h2 h)
  | .ptr _, _, _, h => by cases h
  | .ty _, _, _, h => by cases h
  | .dct _ _, _, _, h => by cases h
  | .obj _ _, _, _, h => by cases h
theorem Rfs.dp (e : Same F H) : ∀ (ds : List D) (vs : List V), Rfs G F vs ds → D.pls ds = true → DpAll G.K H vs (D.pys ds)
  | [], _, r, _ => by cases r; exact .nil
  | d :: ds, _, r, h => by
    simp only [D.pls, Bool.and_eq_true] at h
    cases r with | cons h1 h2 => exact .cons (Rf.dp e d _ h1 h.1) (Rfs.dp e ds _ h2 h.2)
end
end
/-- an owned list is read as it stands -/
def dv (M : Mem) (d : D) : D := match vw M d with | some ds => .lst ds | none => d
section
variable {G : Gx} {X : Cx} {W : WX} {a b c e f o tg iter elt i : Expr} {es rest ifs : List Expr} {pos p2 : Pos} {wa wb wc we wo wi wf : DW} {st : Stmt} {sts : List Stmt} {ws : DWS}
theorem dv_dp {F H : Hp} {M : Mem} {x : V} {d : D} (s : Same F H) (m : RepM G F H M) (r : Rf G F x d) (h : (dv M d).pl = true) : Dp G.K H x (dv M d).py := by
  unfold dv at h ⊢
  split at h
  · next ds hv =>
    obtain ⟨a, xs, rfl, h1, h2⟩ := vw_sq (σ := []) (ρ := []) ⟨s, .nil, m⟩ r hv
    exact .lst h1 (h2.dp s ds xs h)
  · exact r.dp s _ _ h
def rEqD (neg : Bool) : R2D := fun x y M Q => ((dv M x).cok = true ∧ (dv M y).cok = true) ∧ Q (.bl (if neg then !(dv M x).eqb (dv M y) else (dv M x).eqb (dv M y))) M
theorem cok_pl {d : D} (h : d.cok = true) : d.pl = true ∧ SeqAt.shaped d.py = true := by
  unfold D.cok at h; rw [Bool.and_eq_true] at h; exact h
theorem dop_eq {k : Nat} (B : Bd G k X W) : OpD G X W (compareOp .Eq) (rEqD false) := by
  refine ⟨_, op_eqD B.rm.units, fun F σ H ρ M x y dx dy Q Qv k rx ry c h => ?_⟩
  obtain ⟨⟨h1, h2⟩, h3⟩ := h
  obtain ⟨p1, s1⟩ := cok_pl h1
  obtain ⟨p2, s2⟩ := cok_pl h2
  rw [B.eK]
  exact ⟨_, _, dv_dp k.same k.mem rx p1, dv_dp k.same k.mem ry p2, s1, s2, c _ H _ M F (Same.refl F) k (.bl _) h3⟩
theorem dop_ne {k : Nat} (B : Bd G k X W) : OpD G X W (compareOp .NotEq) (rEqD true) := by
  refine ⟨_, op_neD B.rm.units, fun F σ H ρ M x y dx dy Q Qv k rx ry c h => ?_⟩
  obtain ⟨⟨h1, h2⟩, h3⟩ := h
  obtain ⟨p1, s1⟩ := cok_pl h1
  obtain ⟨p2, s2⟩ := cok_pl h2
  rw [B.eK]
  exact ⟨_, _, dv_dp k.same k.mem rx p1, dv_dp k.same k.mem ry p2, s1, s2, c _ H _ M F (Same.refl F) k (.bl _) h3⟩
/-- x in a list, x not in a list -/
def rInL (neg : Bool) : R2D := fun x y M Q => match vw M y with
  | some ds => ((dv M x).cok = true ∧ (D.lst ds).cok = true) ∧ Q (.bl (if neg then !ds.any (fun z => z.eqb (dv M x)) else ds.any (fun z => z.eqb (dv M x)))) M
  | none => False
theorem any_pys (ds : List D) (p : PyData) : (D.pys ds).any (fun z => PyData.eqv z p) = ds.any fun z => PyData.eqv z.py p := by
  rw [pys_map, List.any_map]; rfl
theorem hu65 {A : Around} {k : Nat} (hr : Room k A) : A.units + 65 < cLine := by have := hr.un; omega
theorem dop_inL {k : Nat} (B : Bd G k X W) : OpD G X W (compareOp .In) (rInL false) := by
  refine ⟨_, op_inD (hu65 B.rm), fun F σ H ρ M x y dx dy Q Qv k rx ry c h => ?_⟩
  unfold rInL at h
  split at h
  · next ds hv =>
    obtain ⟨⟨h1, h2⟩, h3⟩ := h
    obtain ⟨p1, s1⟩ := cok_pl h1
    obtain ⟨p2, s2⟩ := cok_pl h2
    obtain ⟨a, xs, rfl, h4, h5⟩ := vw_sq k ry hv
    rw [B.eK]
    refine ⟨_, _, dv_dp k.same k.mem rx p1, .lst h4 (h5.dp k.same ds xs p2), s1, s2, ?_⟩
    rw [any_pys]
    exact c _ H _ M F (Same.refl F) k (.bl _) h3
  · exact h.elim
theorem dop_notInL {k : Nat} (B : Bd G k X W) : OpD G X W (compareOp .NotIn) (rInL true) := by
  refine ⟨_, op_notInD (hu65 B.rm), fun F σ H ρ M x y dx dy Q Qv k rx ry c h => ?_⟩
  unfold rInL at h
  split at h
  · next ds hv =>
    obtain ⟨⟨h1, h2⟩, h3⟩ := h
    obtain ⟨p1, s1⟩ := cok_pl h1
    obtain ⟨p2, s2⟩ := cok_pl h2
    obtain ⟨a, xs, rfl, h4, h5⟩ := vw_sq k ry hv
    rw [B.eK]
    refine ⟨_, _, dv_dp k.same k.mem rx p1, .lst h4 (h5.dp k.same ds xs p2), s1, s2, ?_⟩
    rw [any_pys]
    exact c _ H _ M F (Same.refl F) k (.bl _) h3
  · exact h.elim
/-- in: a dict or a list -/
def rIn (neg : Bool) : R2D := fun x y M Q => match dctD M y with
  | some _ => rInD neg x y M Q
  | none => rInL neg x y M Q
theorem OpD.or2 {f : Value → Value → Sem Value} {r1 r2 r : R2D} (h1 : OpD G X W f r1) (h2 : OpD G X W f r2) (h : ∀ x y M Q, r x y M Q → r1 x y M Q ∨ r2 x y M Q) : OpD G X W f r := by
  obtain ⟨v1, o1, q1⟩ := h1
  obtain ⟨v2, o2, q2⟩ := h2
  refine ⟨_, o1.or o2, fun F σ H ρ M x y dx dy Q Qv k rx ry c hh => ?_⟩
  rcases h _ _ _ _ hh with hh | hh
  · exact .inl (q1 F σ H ρ M x y dx dy Q Qv k rx ry c hh)
  · exact .inr (q2 F σ H ρ M x y dx dy Q Qv k rx ry c hh)
theorem dop_in {k : Nat} (B : Bd G k X W) : OpD G X W (compareOp .In) (rIn false) := (dop_inD B).or2 (dop_inL B) fun x y M Q h => by
  unfold rIn at h; split at h
  · exact .inl h
  · exact .inr h
theorem dop_notIn {k : Nat} (B : Bd G k X W) : OpD G X W (compareOp .NotIn) (rIn true) := (dop_notInD B).or2 (dop_notInL B) fun x y M Q h => by
  unfold rIn at h; split at h
  · exact .inl h
  · exact .inr h

/-! ### a < b, a > b of alike data -/
def D.ltb (x y : D) : Bool := PySem.W.dataLt x.py y.py
/-- numbers, or alike plain data -/
def rLtD (gt : Bool) : R2D := fun x y M Q => match x, y with
  | .int i, .int j => Q (.bl (if gt then decide (j < i) else decide (i < j))) M
  | x, y => (((dv M x).pl = true ∧ (dv M y).pl = true) ∧ PySem.W.alike (dv M x).py (dv M y).py = true ∧ (dv M x).py ≠ .none ∧ (dv M x).py.depth ≤ 60 ∧ (dv M y).py.depth ≤ 60) ∧ Q (.bl (if gt then (dv M y).ltb (dv M x) else (dv M x).ltb (dv M y))) M
theorem cmp_room {A : Around} {k : Nat} (hr : Room k A) {n m : Nat} (h : n ≤ 60) : A.units + 2 + n < cLine ∧ A.units + min n m < cLine ∧ A.units + 1 + n < cLine := by have := hr.un; omega
theorem dop_ltD {k : Nat} (B : Bd G k X W) : OpD G X W (compareOp .Lt) (rLtD false) := by
  refine OpD.of fun pins s σ H x y v u F M dx dy Q Qv I rx ry hs hm r1 r2 c h => ?_
  have main : (((dv M dx).pl = true ∧ (dv M dy).pl = true) ∧ PySem.W.alike (dv M dx).py (dv M dy).py = true ∧ (dv M dx).py ≠ .none ∧ (dv M dx).py.depth ≤ 60 ∧ (dv M dy).py.depth ≤ 60) ∧ Q (.bl ((dv M dx).ltb (dv M dy))) M → wpAny (model X.prog X.w) X.A (compareOp .Lt v u) (EP X pins σ Qv) X.xe s := by
    intro ⟨⟨⟨p1, p2⟩, al, nn, d1, d2⟩, h⟩
    have h1 := dv_dp hs hm r1 p1
    have h2 := dv_dp hs hm r2 p2
    rw [← B.eK] at h1 h2
    obtain ⟨as, q1⟩ := Dp.reads I _ x v h1 rx
    obtain ⟨bs, q2⟩ := Dp.reads I _ y u h2 ry
    exact PySem.W.lt_data q1 q2 al nn (cmp_room B.rm d1).2.1 ⟨.bl _, H, I, rfl, c _ H _ M F (Same.refl F) hs hm (.bl _) h⟩
  unfold rLtD at h
  split at h
  · next i j =>
    cases r1
    cases r2
    exact op_lt pins s σ H _ _ v u _ I rx ry ⟨i, j, rfl, rfl, by simpa using c _ H _ M F (Same.refl F) hs hm (.bl _) h⟩
  · exact main h
theorem dop_gtD {k : Nat} (B : Bd G k X W) : OpD G X W (compareOp .Gt) (rLtD true) := by
  refine OpD.of fun pins s σ H x y v u F M dx dy Q Qv I rx ry hs hm r1 r2 c h => ?_
  have main : (((dv M dx).pl = true ∧ (dv M dy).pl = true) ∧ PySem.W.alike (dv M dx).py (dv M dy).py = true ∧ (dv M dx).py ≠ .none ∧ (dv M dx).py.depth ≤ 60 ∧ (dv M dy).py.depth ≤ 60) ∧ Q (.bl ((dv M dy).ltb (dv M dx))) M → wpAny (model X.prog X.w) X.A (compareOp .Gt v u) (EP X pins σ Qv) X.xe s := by
    intro ⟨⟨⟨p1, p2⟩, al, nn, d1, d2⟩, h⟩
    have h1 := dv_dp hs hm r1 p1
    have h2 := dv_dp hs hm r2 p2
    rw [← B.eK] at h1 h2
    obtain ⟨as, q1⟩ := Dp.reads I _ x v h1 rx
    obtain ⟨bs, q2⟩ := Dp.reads I _ y u h2 ry
    exact PySem.W.gt_data q1 q2 al nn (cmp_room B.rm d1).2.1 ⟨.bl _, H, I, rfl, c _ H _ M F (Same.refl F) hs hm (.bl _) h⟩
  unfold rLtD at h
  split at h
  · next i j =>
    cases r1
    cases r2
    exact op_gt pins s σ H _ _ v u _ I rx ry ⟨i, j, rfl, rfl, by simpa using c _ H _ M F (Same.refl F) hs hm (.bl _) h⟩
  · exact main h

/-! ### list(x), tuple(x), abs, int -/
def sqD (M : Mem) : D → Option (List D)
  | .tup ds => some ds
  | d => vw M d
theorem sqD_sq {F H : Hp} {M : Mem} {x : V} {d : D} {ds : List D} (s : Same F H) (m : RepM G F H M) (r : Rf G F x d) (h : sqD M d = some ds) : ∃ a xs, x = .ref a ∧ (SqL G.K H a xs ∨ SqT G.K H a xs) ∧ Rfs G F xs ds := by
  unfold sqD at h
  split at h
  · next ds' =>
    cases h
    obtain ⟨a, xs, e, h1, h2⟩ := tup_sq (σ := []) (ρ := []) ⟨s, .nil, m⟩ r
    exact ⟨a, xs, e, .inr h1, h2⟩
  · obtain ⟨a, xs, e, h1, h2⟩ := vw_sq (σ := []) (ρ := []) ⟨s, .nil, m⟩ r h
    exact ⟨a, xs, e, .inl h1, h2⟩
/-- list(x): frozen -/
def rList : R1D := fun ds M Q => match ds with
  | [x] => (match sqD M x with | some xs => Q (.lst xs) M | none => False)
  | _ => False
/-- list(x): owned -/
def rListO : R1D := fun ds M Q => match ds with
  | [x] => (match sqD M x with | some xs => ∀ p, M p = none → Q (.ptr p) (M.set p (.lst xs)) | none => False)
  | _ => False
theorem dc_list {k : Nat} (B : Bd G k X W) : CallD G X W (.type "list") rList := by
  refine ⟨_, call_list_of, fun F σ H ρ M vs ds Q Qv k r c h => ?_⟩
  unfold rList at h
  rw [B.eK]
  split at h
  · split at h
    · next xs hv =>
      cases r with | cons r1 r2 =>
      cases r2
      obtain ⟨a, ys, rfl, h4, h5⟩ := sqD_sq k.same k.mem r1 hv
      refine ⟨a, ys, rfl, h4, fun l hl => ?_⟩
      obtain ⟨F', e, k', r'⟩ := k.newL h5 hl
      exact c _ _ _ M F' e k' r' h
    · exact h.elim
  · exact h.elim
theorem dc_listO {k : Nat} (B : Bd G k X W) : CallD G X W (.type "list") rListO := by
  refine ⟨_, call_list_of, fun F σ H ρ M vs ds Q Qv k r c h => ?_⟩
  unfold rListO at h
  rw [B.eK]
  split at h
  · split at h
    · next xs hv =>
      cases r with | cons r1 r2 =>
      cases r2
      obtain ⟨a, ys, rfl, h4, h5⟩ := sqD_sq k.same k.mem r1 hv
      refine ⟨a, ys, rfl, h4, fun l hl => ?_⟩
      exact c _ _ _ _ F (Same.refl F) (k.own (c := .lst xs) hl ⟨ys, upd_same, h5⟩) (.ptr _) (h l (k.mem.fresh hl))
    · exact h.elim
  · exact h.elim
def rTuple : R1D := fun ds M Q => match ds with
  | [x] => (match sqD M x with | some xs => Q (.tup xs) M | none => False)
  | _ => False
theorem dc_tuple {k : Nat} (B : Bd G k X W) : CallD G X W (.type "tuple") rTuple := by
  refine ⟨_, call_tuple_of, fun F σ H ρ M vs ds Q Qv k r c h => ?_⟩
  unfold rTuple at h
  rw [B.eK]
  split at h
  · next x =>
    split at h
    · next xs hv =>
      cases r with | cons r1 r2 =>
      cases r2
      cases x with
      | tup ds' =>
        cases hv
        obtain ⟨a, ys, rfl, h4, h5⟩ := tup_sq k r1
        exact ⟨a, ys, rfl, .inr ⟨h4, c _ _ _ M F (Same.refl F) k r1 h⟩⟩
      | lst ds' =>
        obtain ⟨a, ys, rfl, h4, h5⟩ := vw_sq k r1 hv
        refine ⟨a, ys, rfl, .inl ⟨h4, fun l hl => ?_⟩⟩
        obtain ⟨F', e, k', r'⟩ := k.newT h5 hl
        exact c _ _ _ M F' e k' r' h
      | ptr p =>
        obtain ⟨a, ys, rfl, h4, h5⟩ := vw_sq k r1 hv
        refine ⟨a, ys, rfl, .inl ⟨h4, fun l hl => ?_⟩⟩
        obtain ⟨F', e, k', r'⟩ := k.newT h5 hl
        exact c _ _ _ M F' e k' r' h
      | _ => cases hv
    · exact h.elim
  · exact h.elim
def rAbs : R1D := fun ds M Q => match ds with
  | [.int i] => Q (.int (if i < 0 then -i else i)) M
  | _ => False
theorem dc_abs : CallD G X W (.builtin "abs") rAbs := by
  refine ⟨_, call_abs, fun F σ H ρ M vs ds Q Qv k r c h => ?_⟩
  unfold rAbs at h
  split at h
  · next i =>
    cases r with | cons r1 r2 =>
    cases r2
    cases r1
    exact ⟨i, rfl, c _ _ _ M F (Same.refl F) k (.int _) h⟩
  · exact h.elim
def rInt1 : R1D := fun ds M Q => match ds with
  | [.int i] => Q (.int i) M
  | [.bl b] => Q (.int (if b then 1 else 0)) M
  | _ => False
theorem dc_int : CallD G X W (.type "int") rInt1 := by
  refine ⟨_, call_int1, fun F σ H ρ M vs ds Q Qv k r c h => ?_⟩
  unfold rInt1 at h
  split at h
  · next i =>
    cases r with | cons r1 r2 =>
    cases r2
    cases r1
    exact .inl ⟨i, rfl, c _ _ _ M F (Same.refl F) k (.int _) h⟩
  · next b =>
    cases r with | cons r1 r2 =>
    cases r2
    cases r1
    exact .inr ⟨b, rfl, c _ _ _ M F (Same.refl F) k (.int _) h⟩
  · exact h.elim
end
end DL
namespace DL
open PySem PySem.Spec L2
section
variable {G : Gx} {X : Cx} {W : WX} {a b c e f o tg iter elt i : Expr} {es rest ifs : List Expr} {pos p2 : Pos} {wa wb wc we wo wi wf : DW} {st : Stmt} {sts : List Stmt} {ws : DWS}
mutual
theorem py_inj : ∀ d e : D, d.pl = true → e.pl = true → d.py = e.py → d = e
  | .non, e, _, h2, h => by cases e <;> simp_all [D.py, D.pl]
  | .bl b, e, _, h2, h => by cases e <;> simp_all [D.py, D.pl]
  | .int i, e, _, h2, h => by cases e <;> simp_all [D.py, D.pl]
  | .str x, e, _, h2, h => by cases e <;> simp_all [D.py, D.pl]
  | .tup ds, e, h1, h2, h => by
    cases e with
    | tup es => simp only [D.py, PyData.tuple.injEq] at h; rw [pys_inj ds es h1 h2 h]
    | _ => simp_all [D.py, D.pl]
  | .lst ds, e, h1, h2, h => by
    cases e with
    | lst es => simp only [D.py, PyData.list.injEq] at h; rw [pys_inj ds es h1 h2 h]
    | _ => simp_all [D.py, D.pl]
  | .ptr _, _, h, _, _ => by cases h
  | .ty _, _, h, _, _ => by cases h
  | .dct _ _, _, h, _, _ => by cases h
  | .obj _ _, _, h, _, _ => by cases h
theorem pys_inj : ∀ ds es : List D, D.pls ds = true → D.pls es = true → D.pys ds = D.pys es → ds = es
  | [], [], _, _, _ => rfl
  | [], _ :: _, _, _, h => by simp [D.pys] at h
  | _ :: _, [], _, _, h => by simp [D.pys] at h
  | d :: ds, e :: es, h1, h2, h => by
    simp only [D.pls, Bool.and_eq_true] at h1 h2
    simp only [D.pys, List.cons.injEq] at h
    rw [py_inj d e h1.1 h2.1 h.1, pys_inj ds es h1.2 h2.2 h.2]
end
/-- the greatest, the least of data -/
def maxDD (d : D) (ds : List D) : D := ds.foldl (fun a y => if a.ltb y then y else a) d
def minDD (d : D) (ds : List D) : D := ds.foldl (fun a y => if y.ltb a then y else a) d
theorem maxDD_py : ∀ (ds : List D) (d : D), (maxDD d ds).py = PySem.W.maxD d.py (D.pys ds)
  | [], d => rfl
  | e :: ds, d => by
    show (maxDD (if d.ltb e then e else d) ds).py = PySem.W.maxD (if PySem.W.dataLt d.py e.py then e.py else d.py) (D.pys ds)
    rw [maxDD_py ds]
    unfold D.ltb
    split <;> rfl
theorem minDD_py : ∀ (ds : List D) (d : D), (minDD d ds).py = PySem.W.minD d.py (D.pys ds)
  | [], d => rfl
  | e :: ds, d => by
    show (minDD (if e.ltb d then e else d) ds).py = PySem.W.minD (if PySem.W.dataLt e.py d.py then e.py else d.py) (D.pys ds)
    rw [minDD_py ds]
    unfold D.ltb
    split <;> rfl
theorem foldl_mem {α : Type} (f : α → α → Bool) : ∀ (xs : List α) (x : α), xs.foldl (fun a y => if f a y then y else a) x ∈ x :: xs
  | [], x => by simp
  | y :: ys, x => by
    have := foldl_mem f ys (if f x y then y else x)
    simp only [List.foldl_cons]
    rcases List.mem_cons.mp this with h | h
    · rw [h]; split <;> simp
    · exact List.mem_cons_of_mem _ (List.mem_cons_of_mem _ h)
theorem maxDD_mem (d : D) (ds : List D) : maxDD d ds ∈ d :: ds := foldl_mem _ ds d
theorem minDD_mem (d : D) (ds : List D) : minDD d ds ∈ d :: ds := foldl_mem (f := fun (a y : D) => y.ltb a) ds d
/-- alike data, not too deep -/
def Alk (ds : List D) : Prop := D.pls ds = true ∧ PySem.W.AlikeAll (D.pys ds) ∧ PyData.depthAll (D.pys ds) ≤ 60
theorem get_rf {F : Hp} : ∀ {xs : List V} {ds : List D} {us : List Value}, Rfs G F xs ds → Vals xs us → ∀ (i : Nat) (v : Value), us[i]? = some v → ∃ x d, ds[i]? = some d ∧ RelV x v ∧ Rf G F x d
  | _, _, _, .nil, .nil, i, v, h => by simp at h
  | _, _, _, .cons r1 r2, .cons q1 q2, 0, v, h => by simp only [List.getElem?_cons_zero, Option.some.injEq] at h; subst h; exact ⟨_, _, rfl, q1, r1⟩
  | _, _, _, .cons r1 r2, .cons q1 q2, i + 1, v, h => by simp only [List.getElem?_cons_succ] at h ⊢; exact get_rf r2 q2 i v h
/-- the item that a maximum gave -/
theorem best_is {pins : List (Addr × Obj)} {s : Shared} {σ : St} {H F : Hp} {h' : Heap} {tk : Nat} {v : Value} {d e : D} {ds : List D} {x : V} {bs : List Addr} (eK : X.K = G.K) (I : Inv X pins σ H { s with heap := h', toks := tk }) (hs : Same F H) (al : Alk ds) (hd : d ∈ ds) (he : e ∈ ds) (rx : RelV x v) (r : Rf G F x d) (q : Reads h' v e.py bs) : d = e := by
  have pd : ∀ z ∈ ds, z.pl = true := by have := al.1; rw [pls_all, List.all_eq_true] at this; exact this
  have h1 := r.dp hs _ _ (pd d hd)
  rw [← eK] at h1
  obtain ⟨as, r1⟩ := Dp.reads I _ x v h1 rx
  have ma : ∀ z ∈ ds, z.py ∈ D.pys ds := fun z hz => by rw [pys_map]; exact List.mem_map_of_mem hz
  exact py_inj d e (pd d hd) (pd e he) (PySem.W.alike_unique _ _ _ _ _ (al.2.1.1 _ (ma d hd) _ (ma e he)) r1 q)
/-- max(x), min(x) of a list or a tuple -/
def rBest (mx : Bool) : R1D := fun ds M Q => match ds with
  | [x] => (match sqD M x with | some (d :: ds) => Alk (d :: ds) ∧ Q (if mx then maxDD d ds else minDD d ds) M | _ => False)
  | _ => False
theorem dc_max {k : Nat} (B : Bd G k X W) : CallD G X W (.builtin "max") (rBest true) := by
  refine CallD.of fun pins s σ H vs us F M ds Q Qv I rv hs hm r c h => ?_
  unfold rBest at h
  split at h
  · next x =>
    split at h
    · next d ds hv =>
      obtain ⟨al, h⟩ := h
      cases r with | cons r1 r2 =>
      cases r2
      obtain ⟨a, xs, rfl, h4, h5⟩ := sqD_sq hs hm r1 hv
      obtain ⟨u, rfl, rx⟩ := vals1 rv
      cases rx
      rw [← B.eK] at h4
      have key : ∀ (its : List Value), Vals xs its → ∀ (i : Nat) (v : Value) (h' : Heap) (tk : Nat) (bs : List Addr), its.toArray[i]? = some v → Reads h' v (PySem.W.maxD d.py (D.pys ds)) bs → (∀ b o, s.heap.get? b = some o → h'.get? b = some o) → EP X pins σ Qv v { s with heap := h', toks := tk } := by
        intro its r' i v h' tk bs hi rd kp
        obtain ⟨x, e, he, rx, re⟩ := get_rf h5 r' i v (by simpa using hi)
        have I' : Inv X pins σ H { s with heap := h', toks := tk } := I.kept kp
        rw [← maxDD_py] at rd
        obtain rfl := best_is B.eK I' hs al (List.mem_of_getElem? he) (maxDD_mem d ds) rx re rd
        exact ⟨x, H, I', rx, c x H _ M F (Same.refl F) hs hm re h⟩
      have hu := (cmp_room (m := 0) B.rm al.2.2).2.2
      rcases h4 with h4 | h4
      · obtain ⟨its, r', pl, hz⟩ := I.list h4
        obtain ⟨as, hr⟩ := Dp.readsAll I (D.pys (d :: ds)) xs its (by rw [B.eK]; exact h5.dp hs _ _ al.1) r'
        exact PySem.W.max_list_data (I.ok.hd B.calm) pl.isList hr al.2.1 hu fun i v h' tk bs hi rd kp => key its r' i v h' tk bs hi rd kp
      · obtain ⟨its, r', pl, hz⟩ := I.tuple h4
        obtain ⟨as, hr⟩ := Dp.readsAll I (D.pys (d :: ds)) xs its (by rw [B.eK]; exact h5.dp hs _ _ al.1) r'
        exact PySem.W.max_tuple_data (I.ok.hd B.calm) pl hr al.2.1 hu fun i v h' tk bs hi rd kp => key its r' i v h' tk bs hi rd kp
    · exact h.elim
  · exact h.elim
theorem dc_min {k : Nat} (B : Bd G k X W) : CallD G X W (.builtin "min") (rBest false) := by
  refine CallD.of fun pins s σ H vs us F M ds Q Qv I rv hs hm r c h => ?_
  unfold rBest at h
  split at h
  · next x =>
    split at h
    · next d ds hv =>
      obtain ⟨al, h⟩ := h
      cases r with | cons r1 r2 =>
      cases r2
      obtain ⟨a, xs, rfl, h4, h5⟩ := sqD_sq hs hm r1 hv
      obtain ⟨u, rfl, rx⟩ := vals1 rv
      cases rx
      rw [← B.eK] at h4
      have key : ∀ (its : List Value), Vals xs its → ∀ (i : Nat) (v : Value) (h' : Heap) (tk : Nat) (bs : List Addr), its.toArray[i]? = some v → Reads h' v (PySem.W.minD d.py (D.pys ds)) bs → (∀ b o, s.heap.get? b = some o → h'.get? b = some o) → EP X pins σ Qv v { s with heap := h', toks := tk } := by
        intro its r' i v h' tk bs hi rd kp
        obtain ⟨x, e, he, rx, re⟩ := get_rf h5 r' i v (by simpa using hi)
        have I' : Inv X pins σ H { s with heap := h', toks := tk } := I.kept kp
        rw [← minDD_py] at rd
        obtain rfl := best_is B.eK I' hs al (List.mem_of_getElem? he) (minDD_mem d ds) rx re rd
        exact ⟨x, H, I', rx, c x H _ M F (Same.refl F) hs hm re h⟩
      have hu := (cmp_room (m := 0) B.rm al.2.2).2.2
      rcases h4 with h4 | h4
      · obtain ⟨its, r', pl, hz⟩ := I.list h4
        obtain ⟨as, hr⟩ := Dp.readsAll I (D.pys (d :: ds)) xs its (by rw [B.eK]; exact h5.dp hs _ _ al.1) r'
        exact PySem.W.min_list_data (I.ok.hd B.calm) pl.isList hr al.2.1 hu fun i v h' tk bs hi rd kp => key its r' i v h' tk bs hi rd kp
      · obtain ⟨its, r', pl, hz⟩ := I.tuple h4
        obtain ⟨as, hr⟩ := Dp.readsAll I (D.pys (d :: ds)) xs its (by rw [B.eK]; exact h5.dp hs _ _ al.1) r'
        exact PySem.W.min_tuple_data (I.ok.hd B.calm) pl hr al.2.1 hu fun i v h' tk bs hi rd kp => key its r' i v h' tk bs hi rd kp
    · exact h.elim
  · exact h.elim
/-- max(i, j), min(i, j), or of one sequence -/
def rMM (mx : Bool) : R1D := fun ds M Q => match ds with
  | [.int i, .int j] => Q (.int (if mx then (if j > i then j else i) else (if j < i then j else i))) M
  | _ => rBest mx ds M Q
theorem CallD.or {f : Value} {r1 r2 r : R1D} (h1 : CallD G X W f r1) (h2 : CallD G X W f r2) (h : ∀ ds M Q, r ds M Q → r1 ds M Q ∨ r2 ds M Q) : CallD G X W f r := by
  obtain ⟨v1, o1, q1⟩ := h1
  obtain ⟨v2, o2, q2⟩ := h2
  refine ⟨_, o1.or o2, fun F σ H ρ M vs ds Q Qv k rv c hh => ?_⟩
  rcases h _ _ _ hh with hh | hh
  · exact .inl (q1 F σ H ρ M vs ds Q Qv k rv c hh)
  · exact .inr (q2 F σ H ρ M vs ds Q Qv k rv c hh)
def rMM2 (mx : Bool) : R1D := fun ds M Q => match ds with
  | [.int i, .int j] => Q (.int (if mx then (if j > i then j else i) else (if j < i then j else i))) M
  | _ => False
theorem dc_max2 {k : Nat} (B : Bd G k X W) : CallD G X W (.builtin "max") (rMM2 true) := by
  refine ⟨_, call_max2 B.calm, fun F σ H ρ M vs ds Q Qv k r c h => ?_⟩
  unfold rMM2 at h
  split at h
  · next i j =>
    cases r with | cons r1 r2 =>
    cases r2 with | cons r2 r3 =>
    cases r3
    cases r1
    cases r2
    exact ⟨i, j, rfl, c _ _ _ M F (Same.refl F) k (.int _) h⟩
  · exact h.elim
theorem dc_min2 {k : Nat} (B : Bd G k X W) : CallD G X W (.builtin "min") (rMM2 false) := by
  refine ⟨_, call_min2 B.calm, fun F σ H ρ M vs ds Q Qv k r c h => ?_⟩
  unfold rMM2 at h
  split at h
  · next i j =>
    cases r with | cons r1 r2 =>
    cases r2 with | cons r2 r3 =>
    cases r3
    cases r1
    cases r2
    exact ⟨i, j, rfl, c _ _ _ M F (Same.refl F) k (.int _) h⟩
  · exact h.elim
theorem rMM_or (mx : Bool) (ds : List D) (M : Mem) (Q : QE) (h : rMM mx ds M Q) : rMM2 mx ds M Q ∨ rBest mx ds M Q := by
  unfold rMM at h
  split at h
  · exact .inl h
  · exact .inr h
theorem dc_maxA {k : Nat} (B : Bd G k X W) : CallD G X W (.builtin "max") (rMM true) := (dc_max2 B).or (dc_max B) (rMM_or true)
theorem dc_minA {k : Nat} (B : Bd G k X W) : CallD G X W (.builtin "min") (rMM false) := (dc_min2 B).or (dc_min B) (rMM_or false)

/-! ### any, all of a list of truth values -/
def D.bls : List D → Option (List Bool)
  | [] => some []
  | .bl b :: r => (D.bls r).map (b :: ·)
  | _ :: _ => none
theorem bls_eq : ∀ {ds : List D} {bs : List Bool}, D.bls ds = some bs → ds = bs.map D.bl
  | [], bs, h => by cases h; rfl
  | d :: ds, bs, h => by
    cases d with
    | bl b =>
      simp only [D.bls, Option.map_eq_some_iff] at h
      obtain ⟨cs, h1, rfl⟩ := h
      rw [bls_eq h1]; rfl
    | _ => simp [D.bls] at h
theorem bls_map (bs : List Bool) : D.bls (bs.map D.bl) = some bs := by
  induction bs with
  | nil => rfl
  | cons b bs ih => simp [D.bls, ih]
def rAA (al : Bool) : R1D := fun ds M Q => match ds with
  | [x] => (match (sqD M x).bind D.bls with | some bs => Q (.bl (if al then bs.all id else bs.any id)) M | none => False)
  | _ => False
theorem bls_py (bs : List Bool) : D.pys (bs.map D.bl) = bs.map PyData.bool := by rw [pys_map, List.map_map]; rfl
theorem bls_plain (bs : List Bool) : PyData.plainAll (bs.map PyData.bool) = true ∧ ∀ x ∈ bs.map PyData.bool, x.fits63 := by
  refine ⟨?_, fun x h => ?_⟩
  · induction bs with
    | nil => rfl
    | cons b bs ih => simp [PyData.plainAll, PyData.plain, ih]
  · obtain ⟨b, _, rfl⟩ := List.mem_map.mp h
    simp [PyData.fits63]
theorem bls_pl (bs : List Bool) : D.pls (bs.map D.bl) = true := by simp [pls_all, D.pl]
theorem bls_any (bs : List Bool) : (bs.map PyData.bool).any PyData.truthy = bs.any id := by simp [List.any_map, PyData.truthy, Function.comp_def]; rfl
theorem bls_all (bs : List Bool) : (bs.map PyData.bool).all PyData.truthy = bs.all id := by simp [List.all_map, PyData.truthy, Function.comp_def]; rfl
theorem dc_any {k : Nat} (B : Bd G k X W) : CallD G X W (.builtin "any") (rAA false) := by
  refine CallD.of fun pins s σ H vs us F M ds Q Qv I rv hs hm r c h => ?_
  unfold rAA at h
  split at h
  · next x =>
    split at h
    · next bs hb =>
      obtain ⟨ds, hv, hb⟩ := Option.bind_eq_some_iff.mp hb
      obtain rfl := bls_eq hb
      cases r with | cons r1 r2 =>
      cases r2
      obtain ⟨a, xs, rfl, h4, h5⟩ := sqD_sq hs hm r1 hv
      obtain ⟨u, rfl, rx⟩ := vals1 rv
      cases rx
      rw [← B.eK] at h4
      have rd : ∀ (its : List Value), Vals xs its → ∃ as, ReadsAll s.heap its (bs.map PyData.bool) as := fun its r' => by
        rw [← bls_py]
        exact Dp.readsAll I (D.pys (bs.map D.bl)) xs its (by rw [B.eK]; exact h5.dp hs _ _ (bls_pl bs)) r'
      have fin : ∀ (h' : Heap) (tk : Nat), (∀ b o, s.heap.get? b = some o → h'.get? b = some o) → EP X pins σ Qv (.bool ((bs.map PyData.bool).any PyData.truthy)) { s with heap := h', toks := tk } := fun h' tk kp => by
        rw [bls_any]
        exact ⟨.bl _, H, I.kept kp, rfl, c _ H _ M F (Same.refl F) hs hm (.bl _) h⟩
      rcases h4 with h4 | h4
      · obtain ⟨its, r', pl, hz⟩ := I.list h4
        obtain ⟨as, hr⟩ := rd its r'
        exact PySem.W.any_list_data (I.ok.hd B.calm) pl.isList (by simpa using hr) (bls_plain bs).1 (bls_plain bs).2 fin
      · obtain ⟨its, r', pl, hz⟩ := I.tuple h4
        obtain ⟨as, hr⟩ := rd its r'
        exact PySem.W.any_tuple_data (I.ok.hd B.calm) pl (by simpa using hr) (bls_plain bs).1 (bls_plain bs).2 fin
    · exact h.elim
  · exact h.elim
theorem dc_all {k : Nat} (B : Bd G k X W) : CallD G X W (.builtin "all") (rAA true) := by
  refine CallD.of fun pins s σ H vs us F M ds Q Qv I rv hs hm r c h => ?_
  unfold rAA at h
  split at h
  · next x =>
    split at h
    · next bs hb =>
      obtain ⟨ds, hv, hb⟩ := Option.bind_eq_some_iff.mp hb
      obtain rfl := bls_eq hb
      cases r with | cons r1 r2 =>
      cases r2
      obtain ⟨a, xs, rfl, h4, h5⟩ := sqD_sq hs hm r1 hv
      obtain ⟨u, rfl, rx⟩ := vals1 rv
      cases rx
      rw [← B.eK] at h4
      have rd : ∀ (its : List Value), Vals xs its → ∃ as, ReadsAll s.heap its (bs.map PyData.bool) as := fun its r' => by
        rw [← bls_py]
        exact Dp.readsAll I (D.pys (bs.map D.bl)) xs its (by rw [B.eK]; exact h5.dp hs _ _ (bls_pl bs)) r'
      have fin : ∀ (h' : Heap) (tk : Nat), (∀ b o, s.heap.get? b = some o → h'.get? b = some o) → EP X pins σ Qv (.bool ((bs.map PyData.bool).all PyData.truthy)) { s with heap := h', toks := tk } := fun h' tk kp => by
        rw [bls_all]
        exact ⟨.bl _, H, I.kept kp, rfl, c _ H _ M F (Same.refl F) hs hm (.bl _) h⟩
      rcases h4 with h4 | h4
      · obtain ⟨its, r', pl, hz⟩ := I.list h4
        obtain ⟨as, hr⟩ := rd its r'
        exact PySem.W.all_list_data (I.ok.hd B.calm) pl.isList (by simpa using hr) (bls_plain bs).1 (bls_plain bs).2 fin
      · obtain ⟨its, r', pl, hz⟩ := I.tuple h4
        obtain ⟨as, hr⟩ := rd its r'
        exact PySem.W.all_tuple_data (I.ok.hd B.calm) pl (by simpa using hr) (bls_plain bs).1 (bls_plain bs).2 fin
    · exact h.elim
  · exact h.elim
/-! ### isinstance(x, T), T a built-in type -/
def D.tyN : D → Option String
  | .non => some "NoneType"
  | .bl _ => some "bool"
  | .int _ => some "int"
  | .str _ => some "str"
  | .tup _ => some "tuple"
  | .lst _ => some "list"
  | _ => none
def rIsi : R1D := fun ds M Q => match ds with
  | [x, .ty T] => (match (dv M x).tyN.bind (kitB · T) with | some b => Q (.bl b) M | none => False)
  | _ => False
theorem seqL_ty {K : PySem.W.Frag} {H : Hp} {a : Addr} {xs : List V} (h : SqL K H a xs) : TyX K H (.ref a) (.type "list") := by
  rcases h with (h | ⟨o, h⟩) | ⟨o, its, n, h1, h2, h3⟩
  · exact .base (.lst h)
  · exact .base (.frz h)
  · exact .kList h1 h2
theorem seqT_ty {K : PySem.W.Frag} {H : Hp} {a : Addr} {xs : List V} (h : SqT K H a xs) : TyX K H (.ref a) (.type "tuple") := by
  rcases h with (h | ⟨o, h⟩) | ⟨o, its, n, h1, h2, h3⟩
  · exact .base (.tup h)
  · exact .fTuple h
  · exact .kTuple h1 h2
theorem ty_of {H F : Hp} {M : Mem} {x : V} {d : D} {T : String} (hs : Same F H) (hm : RepM G F H M) (r : Rf G F x d) (h : (dv M d).tyN = some T) : TyX G.K H x (.type T) := by
  unfold dv at h
  split at h
  · next ds hv =>
    cases h
    obtain ⟨a, xs, rfl, h1, h2⟩ := vw_sq (σ := []) (ρ := []) ⟨hs, .nil, hm⟩ r hv
    exact seqL_ty h1
  · cases d with
    | non => cases h; cases r; exact .base .non
    | bl b => cases h; cases r; exact .base (.bl b)
    | int b => cases h; cases r; exact .base (.int b)
    | str b => cases h; cases r; exact .base (.str b)
    | tup ds =>
      cases h
      obtain ⟨a, xs, rfl, h1, h2⟩ := tup_sq (σ := []) (ρ := []) ⟨hs, .nil, hm⟩ r
      exact seqT_ty h1
    | lst ds => rename_i hv; simp [vw] at hv
    | _ => simp [D.tyN] at h
theorem dc_isi {k : Nat} (B : Bd G k X W) : CallD G X W (.builtin "isinstance") rIsi := by
  refine ⟨_, call_isi, fun F σ H ρ M vs ds Q Qv k r c h => ?_⟩
  unfold rIsi at h
  rw [B.eK]
  split at h
  · next x T =>
    split at h
    · next b hb =>
      obtain ⟨n, h1, h2⟩ := Option.bind_eq_some_iff.mp hb
      cases r with | cons r1 r2 =>
      cases r2 with | cons r2 r3 =>
      cases r3
      cases r2
      exact ⟨_, _, _, _, b, rfl, .ty T, ty_of k.same k.mem r1 h1, kit_ty h2, c _ _ _ M F (Same.refl F) k (.bl _) h⟩
    · exact h.elim
  · exact h.elim
/-! ### sorted(xs) -/
/-- alike data that can be sorted -/
def Srt (ds : List D) : Prop := (D.pls ds = true ∧ PySem.W.AllAlike (D.pys ds) ∧ PySem.W.Sortable (D.pys ds)) ∧ ∀ d ∈ ds, d.py.depth ≤ 60
def sortD (ds : List D) : List D := ds.mergeSort fun a b => !b.ltb a
theorem sortD_eq (ds : List D) : ds.mergeSort (PySem.W.dataLe false D.py) = sortD ds := by
  rw [PySem.W.dataLe_eq]; rfl
def rSorted : R1D := fun ds M Q => match ds with
  | [x] => (match vw M x with | some xs => Srt xs ∧ Q (.lst (sortD xs)) M | _ => False)
  | _ => False
theorem each_rf {F : Hp} : ∀ {xs : List V} {ds : List D} {us : List Value}, Rfs G F xs ds → Vals xs us → PySem.W.EachIs (fun u d => ∃ x, RelV x u ∧ Rf G F x d) us ds
  | _, _, _, .nil, .nil => .nil
  | _, _, _, .cons r1 r2, .cons q1 q2 => .cons ⟨_, q1, r1⟩ (each_rf r2 q2)
theorem rf_each {F : Hp} : ∀ {ds : List D} {us : List Value}, PySem.W.EachIs (fun u d => ∃ x, RelV x u ∧ Rf G F x d) us ds → ∃ xs, Rfs G F xs ds ∧ Vals xs us
  | _, _, .nil => ⟨[], .nil, .nil⟩
  | _, _, .cons ⟨x, q, r⟩ h => by
    obtain ⟨xs, h1, h2⟩ := rf_each h
    exact ⟨x :: xs, .cons r h1, .cons q h2⟩
theorem each_pure {R : Value → D → Prop} : ∀ {us : List Value} {ds : List D}, PySem.W.EachIs R us ds → (P : Value → D → Prop) → (∀ u d, d ∈ ds → R u d → P u d) → PySem.W.EachIs P us ds
  | _, _, .nil, _, _ => .nil
  | _, _, .cons r h, P, hp => .cons (hp _ _ List.mem_cons_self r) (each_pure h P fun u d m q => hp u d (List.mem_cons_of_mem _ m) q)
theorem dc_sorted {k : Nat} (B : Bd G k X W) : CallD G X W (.builtin "sorted") rSorted := by
  refine CallD.of fun pins s σ H vs us F M ds Q Qv I rv hs hm r c h => ?_
  unfold rSorted at h
  split at h
  · next x =>
    split at h
    · next ds hv =>
      obtain ⟨⟨⟨p, al, so⟩, dp⟩, h⟩ := h
      cases r with | cons r1 r2 =>
      cases r2
      obtain ⟨a, xs, rfl, h4, h5⟩ := vw_sq (σ := []) (ρ := []) ⟨hs, .nil, hm⟩ r1 hv
      obtain ⟨u, rfl, rx⟩ := vals1 rv
      cases rx
      rw [← B.eK] at h4
      have pd : ∀ z ∈ ds, z.pl = true := by rw [pls_all, List.all_eq_true] at p; exact p
      · obtain ⟨its, r', pl, hz⟩ := I.list h4
        have hz' : ds.length ≤ sizeLine := by rw [← h5.length]; exact hz
        refine PySem.W.sorted_data (R := fun u d => ∃ x, RelV x u ∧ Rf G F x d) (enc := D.py) pl.isList (each_rf h5 r') (each_pure (each_rf h5 r') _ fun u d m ⟨x, q, r⟩ => ?_) (by rw [← pys_map]; exact al) (by rw [← pys_map]; exact so) hz' (fun d m => (cmp_room (m := 0) B.rm (dp d m)).1) fun out h1 h2 => ?_
        · have h1 := r.dp hs _ _ (pd d m)
          rw [← B.eK] at h1
          exact Dp.reads I _ x u h1 q
        · rw [sortD_eq] at h2
          obtain ⟨ys, k1, k2⟩ := rf_each h2
          obtain ⟨ep, he'⟩ := PyProof.Rows.sortedAll_at s.heap its out.toArray
          have hlen : ys.length ≤ sizeLine := by rw [k2.length, h1]; exact hz'
          have e0 : (out.toArray.toList).toArray = out.toArray := by rw [Array.toArray_toList]
          have hf : H (s.heap.objs.size + 1) = none := I.hok.fresh (Nat.le_succ _)
          obtain ⟨F', e, k', r''⟩ := Ok.newL (σ := []) (ρ := []) ⟨hs, .nil, hm⟩ k1 hf
          exact ⟨.ref _, upd H (s.heap.objs.size + 1) (.lst ys), I.laid (t' := s.toks) (fun _ _ => PyProof.Rows.sortedAll_old) (Nat.le_succ _) ⟨hlen, _, ep, k2, by simpa using he'⟩, rfl, c _ _ _ M F' e k'.same k'.mem r'' h⟩
    · exact h.elim
  · exact h.elim
end
end DL
namespace DL
open PySem PySem.Spec L2
section
variable {G : Gx} {X : Cx} {W : WX} {a b c e f o tg iter elt i : Expr} {es rest ifs : List Expr} {pos p2 kpos : Pos} {wa wb wc we wo wi wf : DW} {st : Stmt} {sts : List Stmt} {ws : DWS}
/-! ### keywords -/
structure DKw (G : Gx) (X : Cx) (W : WX) (kws : List Keyword) (w : DWA) : Prop where
  ex : ∃ t, PK X kws t ∧ RdA G W t w
theorem dkw_nil : DKw G X W [] wNil := ⟨_, pk_nil, fun F σ H ρ M Q Ex Qv k l c h => c [] H [] M F (Same.refl F) k .nil h⟩
theorem dkw_cons {kws : List Keyword} {nm : Option Str} {wr : DWA} (h : DE G X W e we) (h' : DKw G X W kws wr) : DKw G X W (⟨nm, e, kpos⟩ :: kws) (wCons we wr) := by
  obtain ⟨t, p, q⟩ := h.ex
  obtain ⟨t', p', q'⟩ := h'.ex
  refine ⟨_, pk_cons p p', fun F σ H ρ M Q Ex Qv k l c h0 => q F σ H ρ M _ Ex _ k l (fun v H1 d M1 F1 e1 k1 r1 h1 => q' F1 σ H1 ρ M1 _ Ex _ k1 (l.mono e1) (fun vs H2 ds M2 F2 e2 k2 r2 h2 => ?_) h1) h0⟩
  exact c _ H2 _ M2 F2 (e1.trans e2) k2 (.cons (r1.mono e2) r2) h2
abbrev RKD := List D → List D → Mem → QE → Prop
def CallKD (G : Gx) (X : Cx) (W : WX) (f : Value) (ks : List Str) (r : RKD) : Prop := ∃ rv, CallRK X f ks rv ∧ ∀ (F : Hp) (σ : St) (H : Hp) (ρ : Env') (M : Mem) (vs zs : List V) (ds es : List D) (Q : QE) (Qv : VK), Ok G F σ H ρ M → Rfs G F vs ds → Rfs G F zs es →
  (∀ v H' d M' F', Same F F' → Ok G F' σ H' ρ M' → Rf G F' v d → Q d M' → Qv v H') → r ds es M Q → rv vs zs H Qv
def wCBK (r : RKD) (w wk : DWA) : DW := fun ρ M Q Ex => w ρ M (fun ds M' => wk ρ M' (fun es M2 => r ds es M2 Q) Ex) Ex
theorem de_callBK {k : Nat} (B : Bd G k X W) {x id : String} {ks : List Str} {r : RKD} {w wk : DWA} {p : Pos} {kws : List Keyword} (hc : CallKD G X W (.builtin id) ks r) (n : Bn G X x (.builtin id)) (h : DA G X W (e :: es) w) (h' : DKw G X W kws wk)
    (he : backTo pos (starEach (e :: es) X.env) = (false, eval e X.env) :: backTo pos (starEach es X.env) := by rfl) (hpl : (backTo pos (starEach (e :: es) X.env)).any (·.1) = false := by rfl)
    (hall : (backToKw pos (keywordEach kws X.env)).all (·.1.isSome) = true := by rfl) (hnone : (backToKw pos (keywordEach kws X.env)).any (·.1.isNone) = false := by rfl) (hks : (backToKw pos (keywordEach kws X.env)).filterMap (·.1) = ks := by rfl) :
    DE G X W (.Call (.Name x p) (e :: es) kws pos) (wCBK r w wk) := by
  obtain ⟨rv, h1, h2⟩ := hc
  obtain ⟨t, pp, q⟩ := h.ex
  obtain ⟨t', pp', q'⟩ := h'.ex
  refine ⟨_, pe_callBK h1 n.hg (by rw [B.emg]; exact n.hm) n.hv pp pp' n.hn n.hd he hpl hall hnone hks, fun F σ H ρ M Q Ex Qv k l c h0 => ?_⟩
  refine q F σ H ρ M _ Ex _ k l (fun vs H1 ds M1 F1 e1 k1 r1 g1 => q' F1 σ H1 ρ M1 _ Ex _ k1 (l.mono e1) (fun zs H2 es M2 F2 e2 k2 r2 g2 => ?_) g1) h0
  exact h2 F2 σ H2 ρ M2 vs zs ds es Q Qv k2 (r1.mono e2) r2 (fun v H' d M' F' e' => c v H' d M' F' ((e1.trans e2).trans e')) g2
theorem CallKD.of {f : Value} {ks : List Str} {r : RKD} (h : ∀ pins s σ H vs zs us ws F M ds es Q Qv, Inv X pins σ H s → Vals vs us → Vals zs ws → Same F H → RepM G F H M → Rfs G F vs ds → Rfs G F zs es →
    (∀ z H' d M' F', Same F F' → Same F' H' → RepM G F' H' M' → Rf G F' z d → Q d M' → Qv z H') → r ds es M Q → wpAny (model X.prog X.w) X.A (call f us (ks.zip ws)) (EP X pins σ Qv) X.xe s) : CallKD G X W f ks r :=
  ⟨fun vs zs H Qv => ∃ F M ds es Q, Same F H ∧ RepM G F H M ∧ Rfs G F vs ds ∧ Rfs G F zs es ∧ (∀ z H' d M' F', Same F F' → Same F' H' → RepM G F' H' M' → Rf G F' z d → Q d M' → Qv z H') ∧ r ds es M Q,
    fun pins s σ H vs zs us ws Qv I rv rz ⟨F, M, ds, es, Q, h1, h2, h3, h4, h5, h6⟩ => h pins s σ H vs zs us ws F M ds es Q Qv I rv rz h1 h2 h3 h4 h5 h6,
    fun F σ H ρ M vs zs ds es Q Qv k rv rz c h => ⟨F, M, ds, es, Q, k.same, k.mem, rv, rz, fun z H' d M' F' e s m => c z H' d M' F' e ⟨s, k.env.mono e, m⟩, h⟩⟩
/-- max(x, default=d) -/
def rMaxDef : RKD := fun ds es M Q => match ds, es with
  | [x], [z] => (match sqD M x with | some [] => Q z M | some (d :: ds) => Alk (d :: ds) ∧ Q (maxDD d ds) M | none => False)
  | _, _ => False
theorem dc_maxDef {k : Nat} (B : Bd G k X W) : CallKD G X W (.builtin "max") [Str.ofString "default"] rMaxDef := by
  refine CallKD.of fun pins s σ H vs zs us ws F M ds es Q Qv I rv rz hs hm r r' c h => ?_
  unfold rMaxDef at h
  split at h
  · next x z =>
    cases r with | cons r1 r2 =>
    cases r2
    cases r' with | cons r3 r4 =>
    cases r4
    obtain ⟨u, rfl, rx⟩ := vals1 rv
    obtain ⟨w, rfl, ry⟩ := vals1 rz
    have hu : ∀ {n : Nat}, n ≤ 60 → X.A.units + 1 + n < cLine := fun h => (cmp_room (m := 0) B.rm h).2.2
    split at h
    · next hv =>
      obtain ⟨a, xs, rfl, h4, h5⟩ := sqD_sq hs hm r1 hv
      cases rx
      cases h5
      rw [← B.eK] at h4
      have fin : ∀ (h' : Heap) (tk : Nat), (∀ b o, s.heap.get? b = some o → h'.get? b = some o) → EP X pins σ Qv w { s with heap := h', toks := tk } := fun h' tk kp =>
        ⟨_, H, I.kept kp, ry, c _ H _ M F (Same.refl F) hs hm r3 h⟩
      rcases h4 with h4 | h4
      · obtain ⟨its, r', pl, hz⟩ := I.list h4
        cases r'
        exact PySem.W.max_list_default (xs := []) (as := []) (I.ok.hd B.calm) pl.isList .nil ⟨by simp, by simp⟩ (hu (by simp [PyData.depthAll])) (fun _ => fin) fun y ys _ _ _ _ _ e => by cases e
      · obtain ⟨its, r', pl, hz⟩ := I.tuple h4
        cases r'
        exact PySem.W.max_tuple_default (xs := []) (as := []) (I.ok.hd B.calm) pl .nil ⟨by simp, by simp⟩ (hu (by simp [PyData.depthAll])) (fun _ => fin) fun y ys _ _ _ _ _ e => by cases e
    · next d ds hv =>
      obtain ⟨al, h⟩ := h
      obtain ⟨a, xs, rfl, h4, h5⟩ := sqD_sq hs hm r1 hv
      cases rx
      rw [← B.eK] at h4
      have key : ∀ (its : List Value), Vals xs its → ∀ (i : Nat) (v : Value) (h' : Heap) (tk : Nat) (bs : List Addr), its.toArray[i]? = some v → Reads h' v (PySem.W.maxD d.py (D.pys ds)) bs → (∀ b o, s.heap.get? b = some o → h'.get? b = some o) → EP X pins σ Qv v { s with heap := h', toks := tk } := by
        intro its r' i v h' tk bs hi rd kp
        obtain ⟨x, e, he, rx, re⟩ := get_rf h5 r' i v (by simpa using hi)
        have I' : Inv X pins σ H { s with heap := h', toks := tk } := I.kept kp
        rw [← maxDD_py] at rd
        obtain rfl := best_is B.eK I' hs al (List.mem_of_getElem? he) (maxDD_mem d ds) rx re rd
        exact ⟨x, H, I', rx, c x H _ M F (Same.refl F) hs hm re h⟩
      rcases h4 with h4 | h4
      · obtain ⟨its, r', pl, hz⟩ := I.list h4
        obtain ⟨as, hr⟩ := Dp.readsAll I (D.pys (d :: ds)) xs its (by rw [B.eK]; exact h5.dp hs _ _ al.1) r'
        exact PySem.W.max_list_default (I.ok.hd B.calm) pl.isList hr al.2.1 (hu al.2.2) (fun e => by simp [D.pys] at e) fun y ys i v h' tk bs e hi rd kp => by
          simp only [D.pys, List.cons.injEq] at e
          obtain ⟨rfl, rfl⟩ := e
          exact key its r' i v h' tk bs hi rd kp
      · obtain ⟨its, r', pl, hz⟩ := I.tuple h4
        obtain ⟨as, hr⟩ := Dp.readsAll I (D.pys (d :: ds)) xs its (by rw [B.eK]; exact h5.dp hs _ _ al.1) r'
        exact PySem.W.max_tuple_default (I.ok.hd B.calm) pl hr al.2.1 (hu al.2.2) (fun e => by simp [D.pys] at e) fun y ys i v h' tk bs e hi rd kp => by
          simp only [D.pys, List.cons.injEq] at e
          obtain ⟨rfl, rfl⟩ := e
          exact key its r' i v h' tk bs hi rd kp
    · exact h.elim
  · exact h.elim
/-! ### sorted(x, key=f), f a def that gives its argument's item j -/
/-- a call of f with a tuple gives its item j; nothing else changes -/
def KeyIx (G : Gx) (f : Addr) (j : Nat) : Prop := ∀ (A : Around) (s : Shared) (t : Addr) (its : Array Value) (v : Value) (E : Value → Shared → Prop), A.depth < recursionLimit → G.K.In s.heap → s.heap.NoLimit → PyProof.Rows.IsTup s.heap t its → its[j]? = some v → its.size ≤ sizeLine →
  wpAny (model G.P G.w) A (call (.ref f) [.ref t]) (fun u s' => u = v ∧ ∃ h' tk, s' = { s with heap := h', toks := tk } ∧ ∀ b o, s.heap.get? b = some o → h'.get? b = some o) E s
theorem key_ix {x qual v : Str} {f : Addr} {fd : FuncData} {j : Nat} {p1 p2 p3 p4 : Pos} {kk : Nat} (Fu : Fun G.K x qual st f fd) (S : FnScope [v] [v] (defScope st)) (hb : Binds G.K fd [v] [])
    (hbody : defBody st = [.Return (some (.Subscript (.Name v p1) (.Constant (.int j) kk p2) p3)) p4]) (hloc : (defScope st).names.lookup v = some .local) (hd : (v == ("__debug__" : Str)) = false) (hj : j < 2 ^ 62) : KeyIx G f j := by
  intro A s t its u E hdp KX lim ht hi hz
  obtain ⟨oc, od, kV, doc, pm, an, cdv, ct, osl, rfl, lk, hcd⟩ := Fu.ex
  refine wpAny_call ?_
  refine codeAny_call_function hdp (KX _ _ lk) rfl S.co S.gen rfl (PySem.W.codeRec_of KX hcd) (hb s [.ref t] KX rfl _ _ _ _ ?_)
  refine wpAny_newFunctionEnv_cells S.kind (by intro y hy; simp at hy; subst hy; exact .inl hloc) fun env he s1 x => ?_
  subst he
  refine ⟨lim.keeps x.toInCall.keep, codeAny_func ?_⟩
  obtain ⟨h1, tk, rfl, hk⟩ := x.done
  show wpAny _ _ (execs (defBody st) _) _ _ _
  rw [hbody]
  have hm : (bindL (PyProof.Rows.envOfC qual (defScope st) s.heap.objs.size f cdv).kindOf ([v].zip [Value.ref t]) fun _ => none) v = some (.ref t) := bindL_get (i := 0) (by simp) rfl rfl hloc
  refine wpAny_execs_cons (wpAny_Return_some (PyProof.Rows.Subscript_ ?_))
  refine wpAny_Name (wpAny_loadName_local S.kind hloc x.toInCall.ns hm ?_) hd
  refine wpAny_Constant_int ?_
  have hsz : j < its.size := (Array.getElem?_eq_some_iff.mp hi).1
  have hn := line63
  refine PyProof.Rows.subscriptTail_builtinR (x := u) (PyProof.Rows.IsTup.typeIs (ht.keeps hk)) PyProof.Rows.slot_tuple_getitem.lookup
    (PyProof.Rows.getItem_tuple (j := j) (ht.keeps hk) (by omega) (by omega) ?_ hi ⟨rfl, ?_⟩)
  · exact seqIndex_of (by omega) (by omega)
  · exact ⟨rfl, _, _, rfl, hk⟩
/-- sorted(x, key=f) by item j -/
def ixD (j : Nat) : D → Option D
  | .tup ds => ds[j]?
  | _ => none
def keyD (j : Nat) (d : D) : D := (ixD j d).getD .non

mutual
def D.nol : D → Bool
  | .tup ds => D.nols ds
  | .lst _ => false
  | .ptr _ => false
  | .dct _ _ => false
  | .obj _ _ => false
  | _ => true
def D.nols : List D → Bool
  | [] => true
  | d :: ds => D.nol d && D.nols ds
end
mutual
theorem reads_nol {h : Heap} : ∀ (d : D) (v : Value) (as : List Addr), d.nol = true → d.pl = true → Reads h v d.py as → as = []
  | .non, _, _, _, _, r => by cases r; rfl
  | .bl _, _, _, _, _, r => by cases r; rfl
  | .int _, _, _, _, _, r => by cases r; rfl
  | .str _, _, _, _, _, r => by cases r; rfl
  | .tup ds, _, _, h, p, r => by cases r with | tuple h1 h2 h3 h4 => exact reads_nols ds _ _ h p h4
  | .lst _, _, _, h, _, _ => by cases h
  | .ptr _, _, _, h, _, _ => by cases h
  | .ty _, _, _, _, p, _ => by cases p
  | .dct _ _, _, _, h, _, _ => by cases h
  | .obj _ _, _, _, h, _, _ => by cases h
theorem reads_nols {h : Heap} : ∀ (ds : List D) (vs : List Value) (as : List Addr), D.nols ds = true → D.pls ds = true → ReadsAll h vs (D.pys ds) as → as = []
  | [], _, _, _, _, r => by cases r; rfl
  | d :: ds, _, _, h, p, r => by
    simp only [D.nols, D.pls, Bool.and_eq_true] at h p
    cases r with
    | cons r1 r2 => rw [reads_nol d _ _ h.1 p.1 r1, reads_nols ds _ _ h.2 p.2 r2]; rfl
end
def sortBy (j : Nat) (ds : List D) : List D := ds.mergeSort fun a b => !(keyD j b).ltb (keyD j a)
/-- the items are tuples that have an item j; these keys can be sorted -/
def SrtBy (j : Nat) (ds : List D) : Prop := (∀ d ∈ ds, ∃ es, d = .tup es ∧ j < es.length ∧ es.length ≤ sizeLine) ∧ Srt (ds.map (keyD j)) ∧ D.nols (ds.map (keyD j)) = true
def rSortBy (f : Addr) (j : Nat) : RKD := fun ds es M Q => match ds, es with
  | [x], [z] => z = .ptr f ∧ (match vw M x with | some xs => SrtBy j xs ∧ Q (.lst (sortBy j xs)) M | none => False)
  | _, _ => False
theorem dc_sortBy {k : Nat} {f : Addr} {j : Nat} (B : Bd G k X W) (hf : KeyIx G f j) : CallKD G X W (.builtin "sorted") [Str.ofString "key"] (rSortBy f j) := by
  refine CallKD.of fun pins s σ H vs zs us ws F M ds es Q Qv I rv rz hs hm r r' c h => ?_
  unfold rSortBy at h
  split at h
  · next x z =>
    obtain ⟨rfl, h⟩ := h
    cases r with | cons r1 r2 =>
    cases r2
    cases r' with | cons r3 r4 =>
    cases r4
    cases r3
    obtain ⟨u, rfl, rx⟩ := vals1 rv
    obtain ⟨w, rfl, ry⟩ := vals1 rz
    obtain rfl : w = Value.ref f := ry
    split at h
    · next ds hv =>
      obtain ⟨⟨sh, ⟨⟨p, al, so⟩, dp⟩, nl⟩, h⟩ := h
      obtain ⟨a, xs, rfl, h4, h5⟩ := vw_sq (σ := []) (ρ := []) ⟨hs, .nil, hm⟩ r1 hv
      cases rx
      rw [← B.eK] at h4
      obtain ⟨its, r', pl, hz⟩ := I.list h4
      have hz' : ds.length ≤ sizeLine := by rw [← h5.length]; exact hz
      have pd : ∀ z ∈ ds.map (keyD j), z.pl = true := by rw [pls_all, List.all_eq_true] at p; exact p
      have nd : ∀ (l : List D), D.nols l = true → ∀ z ∈ l, z.nol = true := fun l => by
        induction l with
        | nil => intro _ z h; cases h
        | cons d l ih =>
          intro h z hz
          simp only [D.nols, Bool.and_eq_true] at h
          rcases List.mem_cons.mp hz with rfl | hz
          · exact h.1
          · exact ih h.2 z hz
      have em : ds.map (fun d => (keyD j d).py) = D.pys (ds.map (keyD j)) := by rw [pys_map, List.map_map]; rfl
      have hB := B
      refine PySem.W.sorted_key_data (b := false) (R := fun u d => ∃ x, RelV x u ∧ Rf G F x d) (fun d => (keyD j d).py) pl.isList (each_rf h5 r') (by rw [em]; exact al) (by rw [em]; exact so) hz' (fun d m => (cmp_room (m := 0) B.rm (dp _ (List.mem_map_of_mem m))).1)
        (PyProof.Rows.ksk_s1 _ _) (fun _ => PyProof.Rows.ksk_l1 _ _) (fun _ => PyProof.Rows.ksk_t1 _ _) ?_ ?_
      · intro v d ⟨x, rx, rd⟩ m h' tk kp
        obtain ⟨es, rfl, hj, he⟩ := sh d m
        obtain ⟨t, ys, rfl, q1, q2⟩ := tup_sq (σ := []) (ρ := []) ⟨hs, .nil, hm⟩ rd
        cases rx
        rw [← B.eK] at q1
        have I' : Inv X pins σ H { s with heap := h', toks := tk } := I.kept kp
        obtain ⟨its2, r2, pl2, hz2⟩ := I'.tuple q1
        have hl2 : its2.length = es.length := by rw [← r2.length, q2.length]
        have hg : its2.toArray[j]? = some (its2[j]'(by omega)) := by simp
        have hkin : G.K.In h' := by rw [← B.eK]; exact I'.kIn
        rw [B.eP, B.ew]
        refine wpAny_mono (hf X.A.in1.in1 _ t its2.toArray _ _ (by have := B.rm.depth; exact this) hkin I'.nolimit pl2 hg (by simpa [hl2] using he)) ?_ fun _ _ z => z
        rintro u s' ⟨rfl, h2, tk2, rfl, kp2⟩
        obtain ⟨x2, e2, g1, g2, g3⟩ := get_rf q2 r2 j (its2[j]'(by omega)) (by simp)
        have ek : keyD j (.tup es) = e2 := by simp [keyD, ixD, g1]
        have pe : e2.pl = true := pd _ (by rw [← ek]; exact List.mem_map_of_mem m)
        have h1 := g3.dp hs _ _ pe
        rw [← B.eK] at h1
        have I2 : Inv X pins σ H { s with heap := h2, toks := tk2 } := I'.kept (s := { s with heap := h', toks := tk }) kp2
        obtain ⟨as, rr⟩ := Dp.reads I2 _ x2 _ h1 g2
        have : as = [] := reads_nol e2 _ _ (nd _ nl _ (by rw [← ek]; exact List.mem_map_of_mem m)) pe rr
        subst this
        exact ⟨h2, tk2, rfl, kp2, by rw [ek]; exact rr⟩
      · intro out c' h' tk kp hn hD hl eo
        have eo' : PySem.W.EachIs (fun u d => ∃ x, RelV x u ∧ Rf G F x d) out (sortBy j ds) := by
          have : ds.mergeSort (PySem.W.dataLe false fun d => (keyD j d).py) = sortBy j ds := by rw [PySem.W.dataLe_eq]; rfl
          rw [← this]; exact eo
        obtain ⟨ys, k1, k2⟩ := rf_each eo'
        have hlen : ys.length ≤ sizeLine := by rw [k2.length, hl]; exact hz'
        have hf' : H (s.heap.objs.size + 1) = none := I.hok.fresh (Nat.le_succ _)
        obtain ⟨F', e, k', r''⟩ := Ok.newL (σ := []) (ρ := []) ⟨hs, .nil, hm⟩ k1 hf'
        exact ⟨.ref _, upd H (s.heap.objs.size + 1) (.lst ys), I.laid (t' := tk) kp (Nat.le_succ _) ⟨hlen, _, c', k2, hD⟩, rfl, c _ _ _ M F' e k'.same k'.mem r'' h⟩
    · exact h.elim
  · exact h.elim
end
end DL
namespace DL
open PySem PySem.Spec L2
section
variable {G : Gx} {X : Cx} {W : WX} {a b c e f o tg iter elt i : Expr} {es rest ifs : List Expr} {pos p2 kpos : Pos} {wa wb wc we wo wi wf : DW} {st : Stmt} {sts : List Stmt} {ws : DWS}
/-- an untracked object of ours is written and tracked from now on -/
theorem inv_adopt {pins : List (Addr × Obj)} {σ : St} {H : Hp} {s : Shared} {h' : Heap} {t' : Nat} {T : Addr} {ob : HO} (I : Inv X pins σ H s) (k : ∀ b o, b ≠ T → s.heap.get? b = some o → h'.get? b = some o) (f : FpOk X pins H T)
    (new : ObjOk X.prog X.w (upd H T ob) h' T ob) : Inv X pins σ (upd H T ob) { s with heap := h', toks := t' } := by
  have hn : H T = none := f.1
  have nit : ∀ b u, H b = some u → b ≠ T := fun b u e z => by rw [z, hn] at e; cases e
  refine I.step (g' := s.gens) (d' := s.drawn) (ch := [T]) (fun b hb => ?_) (fun b o _ _ hc e _ => k b o (fun z => hc (by simp [z])) e) (fun b o _ _ hc e _ => ⟨o.slots, k b o (fun z => hc (by simp [z])) e⟩)
    (fun b o hc e n => ?_) (fun b o hc e => ⟨o, k b o (fun z => hc (by simp [z])) e⟩) (fun b xs e => ?_) (fun b o u e => ?_) (fun b ps e => ⟨#[], ?_⟩) (fun m hm => ?_) (fun b u e => ?_) I.bare
  · have e : b = T := by simpa using hb
    subst e
    exact ⟨f.2.2.2.1, f.2.1, f.2.2.2.2.1, f.2.2.2.2.2⟩
  · rw [upd_ne (fun z => hc (by simp [z]))]; exact n
  · rw [upd_ne (ne_of_none e hn)]; exact e
  · rw [upd_ne (ne_of_none e hn)]; exact e
  · rw [upd_ne (ne_of_none e hn), e]; simp
  · obtain ⟨o, es, ep, ho, r⟩ := hm
    exact ⟨o, es, ep, k _ o (fun z => f.2.1 z.symm) ho, r⟩
  · by_cases hb : b = T
    · subst hb
      rw [upd_same] at e
      cases e
      exact new
    · rw [upd_ne hb] at e
      refine (I.hok b u e).stay (fun c v hc q => k c v ?_ q) (fun c q => by rw [upd_ne (ne_of_none q hn)]; exact q) fun c xs q => by rw [upd_ne (ne_of_none q hn)]; exact q
      rcases hc with z | z
      · rw [z]; exact hb
      · exact nit c _ z
theorem nroomA {A : Around} {k : Nat} (hr : Room k A) : (nestedKind X.prog X.w).room A := by
  have := hr.un
  show A.units + _ < _
  omega
/-- {k: v}, k a tuple; k's and v's evaluation makes no owned thing -/
def wDict1 (wk wv : DW) : DW := fun ρ M Q Ex => wk ρ M (fun k M1 => wv ρ M1 (fun v M2 => dkey true k ∧ ∀ p, M2 p = none → Q (.ptr p) (M2.set p (.dct true [(k, v)]))) Ex) Ex
theorem de_dict1 {k : Nat} (B : Bd G k X W) (ha : DE G X W a wa) (hb : DE G X W b wb) (hs : (evalEachOpt [some a] X.env).zip ((evalEach [b] X.env).map fun v => do let x ← v; standAt pos; pure x) = [(eval a X.env, do let x ← eval b X.env; standAt pos; pure x)].map fun p => (some p.1, p.2) := by rfl) :
    DE G X W (.Dict [some a] [b] pos) (wDict1 wa wb) := by
  refine DE.of fun pins s σ H F ρ M Q Ex Qv I k l c h => ?_
  obtain ⟨ta, pa, qa⟩ := ha.ex
  obtain ⟨tb, pb, qb⟩ := hb.ex
  rw [arm_eval_Dict, hs, dictDisplay_pairs _ (by simp) (by simp)]
  refine wpAny_bind (wpAny_standAt (wpAny_bind (wpAny_subDictH (knd := nestedKind X.prog X.w) (nroomA B.rm) (by simp) ?_)))
  have kp : ∀ b o, s.heap.get? b = some o → (s.heap.push { cls := .type "dict", data := .dict #[] }).get? b = some o := fun _ _ q => Heap.get?_push_of_some _ q
  have I0 : Inv X pins σ H { s with heap := s.heap.push { cls := .type "dict", data := .dict #[] } } := I.kept (t' := s.toks) kp
  have hg0 : (s.heap.push { cls := .type "dict", data := .dict #[] }).get? s.heap.objs.size = some { cls := .type "dict", data := .dict #[] } := Heap.get?_push_size _ rfl
  have I1 := I0.pinned (fp := [s.heap.objs.size]) (fun b hb => by rw [List.mem_singleton] at hb; subst hb; exact I.fpOk (Nat.le_refl _) (I.hok.fresh (Nat.le_refl _))) (fun b hb => by
    rw [List.mem_singleton] at hb; subst hb; exact ⟨_, hg0, fun v z => by cases z⟩)
  have hp : (s.heap.objs.size, ({ cls := .type "dict", data := .dict #[] } : Obj)) ∈ pinsAt [s.heap.objs.size] (s.heap.push { cls := .type "dict", data := .dict #[] }) := by
    simp [pinsAt, hg0]
  refine evalPairs_cons (thn (pa.run _ _ σ H (fun x H1 => ∃ F1 d1 M1, Same F F1 ∧ Ok G F1 σ H1 ρ M1 ∧ Rf G F1 x d1 ∧ wb ρ M1 (fun v M2 => dkey true d1 ∧ ∀ p, M2 p = none → Q (.ptr p) (M2.set p (.dct true [(d1, v)]))) Ex) I1
    (qa F σ H ρ M _ Ex _ k l (fun v H1 d M1 F1 e1 k1 r1 h1 => ⟨F1, d, M1, e1, k1, r1, h1⟩) h)) fun u s1 ⟨x, H1, I1, rx, F1, d1, M1, e1, k1, r1, h1⟩ => ?_)
  refine wpAny_bind (thn (pb.run _ _ σ H1 (fun y H2 => ∃ F2 d2 M2, Same F1 F2 ∧ Ok G F2 σ H2 ρ M2 ∧ Rf G F2 y d2 ∧ dkey true d1 ∧ ∀ p, M2 p = none → Q (.ptr p) (M2.set p (.dct true [(d1, d2)]))) I1
    (qb F1 σ H1 ρ M1 _ Ex _ k1 (l.mono e1) (fun v H1 d M1 F1 e1 k1 r1 h1 => ⟨F1, d, M1, e1, k1, r1, h1.1, h1.2⟩) h1)) fun u2 s2 ⟨y, H2, I2, ry, F2, d2, M2, e2, k2, r2, hk, h2⟩ => wpAny_bind (wpAny_standAt (wpAny_pure (evalPairs_nil ?_))))
  obtain ⟨b, nk, rfl, hk1, hk2⟩ := dkey_N (r1.mono e2) hk
  obtain rfl : u = Value.ref b := rx
  have pn := I2.pin _ (List.mem_append_right _ (List.mem_append_right _ hp))
  have pn1 := pn.1
  have hd0 : s2.heap.DictOfH (nestedKind X.prog X.w) s.heap.objs.size [] := by
    exact ⟨_, #[], 0, pn1, ⟨rfl, rfl, rfl⟩, rfl, rfl, fun _ hx => by simp at hx, List.nodup_nil⟩
  refine ⟨[(nk, b, u2)], ⟨rfl, rfl, n_key B.eK I2 k2.same (r1.mono e2) hk1 hk2, trivial⟩, hd0, fun h' tk hD sb => ?_⟩
  have hst : storedAllH ([] : List (NestedKey × Addr × Value)) [(nk, b, u2)] = [(nk, b, u2)] := rfl
  rw [hst] at hD
  have hz : H2 s.heap.objs.size = none := pn.2.1
  have J : Inv X pins σ (upd H2 s.heap.objs.size (hoN G s.heap.objs.size [(nk, b, y)])) { s2 with heap := h', toks := tk } := by
    have f := I.fpOk (Nat.le_refl _) (I.hok.fresh (Nat.le_refl _))
    exact inv_adopt I2.unpinned (fun b o hb e => (sb.2 b hb).trans e) ⟨hz, f.2⟩ (n_new B.eP B.ew (.cons ⟨rfl, rfl, ry⟩ .nil) (by simp [sizeLine_eq]) (beq_eq_false_iff_ne.mpr (Ne.symm (Nat.ne_of_lt I.big))) hD)
  exact wpAny_pure ⟨.ref s.heap.objs.size, _, J, rfl, c _ _ _ _ F2 (e1.trans e2) (k2.own (c := .dct true [(d1, d2)]) hz ⟨[(nk, b, y)], upd_same, .cons ⟨hk1, hk2⟩ (r1.mono e2) r2 .nil⟩) (.ptr _) (h2 _ (k2.mem.fresh hz))⟩
end
end DL
namespace DL
open PySem PySem.Spec L2
/-! ### names by computation -/
def visB (sc : Scope) (x : Str) : Bool := match sc.names.lookup x with
  | some .local => true
  | some .cell => true
  | some .free => true
  | _ => false
def locB (sc : Scope) (x : Str) : Bool := match sc.names.lookup x with
  | some .local => true
  | some .cell => true
  | _ => false
def plB (sc : Scope) (x : Str) : Bool := match sc.names.lookup x with
  | some .local => true
  | _ => false
def glB (sc : Scope) (x : Str) : Bool := match sc.names.lookup x with
  | some .globalImplicit => true
  | _ => false
def okB (x : Str) : Bool := !(x == ("__debug__" : Str)) && !(x == ("__classdict__" : Str))
def slB (N : List Str) (sc : Scope) (i : Nat) (x : Str) : Bool := decide (N[i]? = some x) && visB sc x && okB x
def snB (N : List Str) (sc : Scope) (i : Nat) (x : Str) : Bool := decide (N[i]? = some x) && locB sc x
def snpB (N : List Str) (sc : Scope) (i : Nat) (x : Str) : Bool := decide (N[i]? = some x) && plB sc x
def gnB (sc : Scope) (x : Str) : Bool := glB sc x && okB x
/-- a body, a block: its names, its scope -/
structure Bs (G : Gx) (k : Nat) (N : List Str) (sc : Scope) (X : Cx) (W : WX) : Prop extends Bd G k X W where
  eN : X.N = N
  esc : X.env.scope = sc
section
variable {G : Gx} {k : Nat} {N : List Str} {sc : Scope} {X : Cx} {W : WX}
theorem Bf.bs (B : Bf G k N sc X W) : Bs G k N sc X W := { toBd := B.toBd, eN := B.eN, esc := B.esc }
theorem Bs.blk {X' : Cx} {W' : WX} {scope : Scope} (B : Bs G k N sc X W) (B' : Bd G k X' W') (h1 : X'.N = X.N) (h2 : X'.env.scope = relS scope X.env.scope) : Bs G k N (relS scope sc) X' W' :=
  { toBd := B', eN := h1.trans B.eN, esc := by rw [h2, B.esc] }
theorem vis_of {x : Str} (h : visB sc x = true) : Vis sc x := by
  unfold visB at h
  split at h
  · exact .inl ‹_›
  · exact .inr (.inl ‹_›)
  · exact .inr (.inr ‹_›)
  · cases h
theorem loc_of {x : Str} (h : locB sc x = true) : Loc sc x := by
  unfold locB at h
  split at h
  · exact .inl ‹_›
  · exact .inr ‹_›
  · cases h
theorem pl_of {x : Str} (h : plB sc x = true) : sc.names.lookup x = some .local := by
  unfold plB at h
  split at h
  · assumption
  · cases h
theorem gl_of {x : Str} (h : glB sc x = true) : sc.names.lookup x = some .globalImplicit := by
  unfold glB at h
  split at h
  · assumption
  · cases h
theorem ok_of {x : Str} (h : okB x = true) : (x == ("__debug__" : Str)) = false ∧ (x == ("__classdict__" : Str)) = false := by
  unfold okB at h
  rw [Bool.and_eq_true] at h
  exact ⟨by simpa using h.1, by simpa using h.2⟩
theorem Sl.of {i : Nat} {x : Str} (B : Bs G k N sc X W) (h : slB N sc i x = true) : Sl X i x := by
  unfold slB at h
  rw [Bool.and_eq_true, Bool.and_eq_true] at h
  obtain ⟨⟨h1, h2⟩, h3⟩ := h
  exact ⟨by rw [B.eN]; exact of_decide_eq_true h1, by rw [B.esc]; exact vis_of h2, (ok_of h3).1, (ok_of h3).2⟩
theorem Sn.of {i : Nat} {x : Str} (B : Bf G k N sc X W) (h : snB N sc i x = true) : Sn X i x := by
  unfold snB at h
  rw [Bool.and_eq_true] at h
  exact ⟨B.nd, by rw [B.eN]; exact of_decide_eq_true h.1, by rw [B.esc]; exact loc_of h.2, .inl (B.fn x)⟩
theorem Sn.blk {i : Nat} {x : Str} (B : Bs G k N sc X W) (h : snpB N sc i x = true) : Sn X i x := by
  unfold snpB at h
  rw [Bool.and_eq_true] at h
  exact ⟨B.nd, by rw [B.eN]; exact of_decide_eq_true h.1, by rw [B.esc]; exact .inl (pl_of h.2), .inr (by rw [B.esc]; exact pl_of h.2)⟩
theorem Gl.of {x : Str} (B : Bs G k N sc X W) (h : glB sc x = true) : Gl X x := by
  show X.env.scope.names.lookup x = _
  rw [B.esc]; exact gl_of h
theorem Gn.of {x : Str} {u : Value} (B : Bs G k N sc X W) (hm : G.mg x = some u) (h : gnB sc x = true) : Gn G X x u := by
  unfold gnB at h
  rw [Bool.and_eq_true] at h
  exact ⟨Gl.of B h.1, hm, (ok_of h.2).1⟩
theorem Bn.of {x : Str} {u : Value} (B : Bs G k N sc X W) (hm : G.mg x = none) (hv : bootBuiltins x = some u) (hn : x ≠ "__name__") (h : gnB sc x = true) : Bn G X x u := by
  unfold gnB at h
  rw [Bool.and_eq_true] at h
  exact ⟨Gl.of B h.1, hm, hv, hn, (ok_of h.2).1⟩
theorem Bs.loc {x : Str} (B : Bs G k N sc X W) (h : plB sc x = true) : X.env.scope.names.lookup x = some .local := by rw [B.esc]; exact pl_of h
theorem Bs.ix {i : Nat} {x : Str} (B : Bs G k N sc X W) (h : N[i]? = some x) : X.N[i]? = some x := by rw [B.eN]; exact h
/-- name = [..], the name a cell -/
theorem sw_cell {elt : Expr} {gs : List Comprehension} {scope : Scope} {pos py : Pos} {y : Str} {l : Nat} {env : Env} (hy : env.scope.names.lookup y = some .cell) : swapsWith (.ListComp elt gs scope pos) (some (.Name y py)) l env = pure false := by
  have ky : env.kindOf y = some .cell := hy
  unfold swapsWith
  simp only [ky]
  have e : (some NameKind.cell == some NameKind.local) = false := rfl
  rw [e]
  simp
theorem sw_line {elt : Expr} {gs : List Comprehension} {scope : Scope} {pos py : Pos} {y : Str} {l : Nat} {env : Env} (hl : (py.line == pos.line) = false) : swapsWith (.ListComp elt gs scope pos) (some (.Name y py)) l env = pure false := by
  unfold swapsWith
  simp only [Expr.pos, hl]
  simp
/-- a, b = x, y: both names plain locals -/
theorem par_sw {x y : Str} {px py pt pt2 : Pos} {kt k2 : Nat} {a b : Expr} {env : Env} (hk : env.scope.kind = .function) (hx : env.scope.names.lookup x = some .local) (hy : env.scope.names.lookup y = some .local) (hl : (py.line == px.line) = true)
    (ha : ∀ v p, a ≠ .Starred v p) (hb' : ∀ v p, b ≠ .Starred v p) (h2 : ([x, y].eraseDups.length != 2) = false) (h3 : [a, b].all (foldedForSure 8) = false) (h4 : [a, b].all (constantsAlone 8) = false) :
    swappedStores [.Tuple [.Name x px, .Name y py] kt pt] (.Tuple [a, b] k2 pt2) env = pure (some [x, y]) := by
  have kx : env.kindOf x = some .local := hx
  have ky : env.kindOf y = some .local := hy
  have hb : env.blockKind = .function := by unfold Env.blockKind; rw [hk]; rfl
  have e1 : (some NameKind.local == some NameKind.local) = true := rfl
  have e2 : (ScopeKind.function != ScopeKind.function) = false := rfl
  have hl2 : (px.line == px.line) = true := by simp
  unfold swappedStores
  simp only [hb, kx, ky, e1, e2, List.filterMap, List.head?, Option.map, Option.getD, Expr.pos, hl, hl2, h2, h3, h4, List.length, Bool.and_true, if_true, Bool.or_true, Bool.true_or]
  simp [h2, h3, h4]
theorem par_cellL {x y : Str} {px py pt pt2 : Pos} {kt k2 : Nat} {a b : Expr} {env : Env} (hx : env.scope.names.lookup x = some .cell) :
    swappedStores [.Tuple [.Name x px, .Name y py] kt pt] (.Tuple [a, b] k2 pt2) env = pure none := by
  have kx : env.kindOf x = some .cell := hx
  have e1 : (some NameKind.cell == some NameKind.local) = false := rfl
  unfold swappedStores
  dsimp only
  by_cases h0 : (!([Expr.Name x px, .Name y py].length == 2 || [Expr.Name x px, .Name y py].length == 3) || [a, b].length != [Expr.Name x px, .Name y py].length || env.blockKind != .function) = true
  · rw [if_pos h0]
  · rw [if_neg h0]
    split
    · rfl
    · have hn : ∀ (l : List Str), l.length ≤ 1 → (l.length != [Expr.Name x px, Expr.Name y py].length || l.eraseDups.length != l.length) = true := fun l hl => by
        have : (l.length != [Expr.Name x px, Expr.Name y py].length) = true := by
          simp only [List.length_cons, List.length_nil, bne_iff_ne, ne_eq]; omega
        rw [this]; rfl
      rw [if_pos]
      apply hn
      simp only [kx, e1, List.filterMap, Bool.false_and, Bool.false_eq_true, if_false]
      split <;> simp
end
theorem bt_len : bootBuiltins "len" = some (.builtin "len") := by decide +kernel
theorem bt_abs : bootBuiltins "abs" = some (.builtin "abs") := by decide +kernel
theorem bt_max : bootBuiltins "max" = some (.builtin "max") := by decide +kernel
theorem bt_min : bootBuiltins "min" = some (.builtin "min") := by decide +kernel
theorem bt_any : bootBuiltins "any" = some (.builtin "any") := by decide +kernel
theorem bt_all : bootBuiltins "all" = some (.builtin "all") := by decide +kernel
theorem bt_sorted : bootBuiltins "sorted" = some (.builtin "sorted") := by decide +kernel
theorem bt_isinstance : bootBuiltins "isinstance" = some (.builtin "isinstance") := by decide +kernel
theorem bt_int : bootBuiltins "int" = some (.type "int") := by decide +kernel
theorem bt_list : bootBuiltins "list" = some (.type "list") := by decide +kernel
theorem bt_tuple : bootBuiltins "tuple" = some (.type "tuple") := by decide +kernel
theorem bt_bool : bootBuiltins "bool" = some (.type "bool") := by decide +kernel
theorem bt_str : bootBuiltins "str" = some (.type "str") := by decide +kernel
theorem bt_dict : bootBuiltins "dict" = some (.type "dict") := by decide +kernel
/-- a builtin type as a value -/
theorem de_bty {G : Gx} {k : Nat} {X : Cx} {W : WX} {pos : Pos} (B : Bd G k X W) {x T : String} (n : Bn G X x (.type T)) : DE G X W (.Name x pos) (wC (.ty T)) :=
  ⟨_, pe_bltn n.hg (by rw [B.emg]; exact n.hm) n.hv (show RelV (.ty T) (.type T) from rfl) n.hn n.hd, rdC fun F => .ty T⟩
def GTot (w : DWG) : Prop := ∀ d ρ M Q, w d ρ M Q → ∃ ρ' M', Q ρ' M'
def GLen (w : DWGs) (n : Nat) : Prop := ∀ ds ρ M Q, w ds ρ M Q → ds.length = n ∧ ∃ ρ' M', Q ρ' M'
theorem gt_nm {i : Nat} : GTot (gNm i) := fun d ρ M Q h => ⟨_, _, h⟩
theorem gl_nil : GLen gsNil 0 := fun ds ρ M Q h => by
  unfold gsNil at h
  split at h
  · exact ⟨rfl, _, _, h⟩
  · exact h.elim
theorem gl_cons {w : DWG} {w' : DWGs} {n : Nat} (h : GTot w) (h' : GLen w' n) : GLen (gsCons w w') (n + 1) := fun ds ρ M Q q => by
  unfold gsCons at q
  split at q
  · exact q.elim
  · next d ds =>
    obtain ⟨ρ', M', q⟩ := h _ _ _ _ q
    obtain ⟨e, z⟩ := h' _ _ _ _ q
    exact ⟨by simp [e], z⟩
theorem gt_tp {w : DWGs} {n : Nat} (h : GLen w n) : GTot (gTp w) := fun d ρ M Q q => by
  unfold gTp at q
  split at q
  · exact (h _ _ _ _ q).2
  · exact q.elim
theorem gl_len {w : DWGs} {n : Nat} (h : GLen w n) : ∀ ds ρ M Q, w ds ρ M Q → ds.length = n := fun ds ρ M Q q => (h ds ρ M Q q).1
end DL
namespace DL
open PySem PySem.Spec L2
/-- as fd_of, for one code record -/
theorem fn_okD {G : Gx} {k : Nat} {x qual : Str} {st : Stmt} {f : Addr} {fd : FuncData} {N ps : List Str} {sp : DSp} {w : DWS} (Fu : Fun G.K x qual st f fd) (S : FnScope N ps (defScope st))
    (hd : ∀ X W, Bf G k N (defScope st) X W → DSs G X W (defBody st) w)
    (hw : ∀ ds M q ex, ds.length = ps.length → sp ds M q ex → w { nx := fun _ M' => q .non M', rt := q, ex := fun x _ M' => ex x M' } (startD N ds) M) : FnOk G.P G.w G.K G.mg G.base (L2.CX G.P G.w) (k + 1) f fd ps (liftSp G ps.length sp) := by
  refine Fu.okX S (fun vs H Q E h => ?_) (fun cdv A outer s H vs Q E hr h => ?_)
  · obtain ⟨F, ds, M, q, ex, hl, _, _, r, _⟩ := h
    rw [r.length, hl]
  · obtain ⟨F, ds, M, q, ex, hl, hs, hm, r, h, hq, hx⟩ := h
    have B : Bf G k N (defScope st) (cxOf (L2.CX G.P G.w) G.P G.w G.K G.mg G.base N qual (defScope st) f cdv A outer s H E) (fun cls d _ H => E cls d H) :=
      { eP := rfl, ew := rfl, eK := rfl, emg := rfl, eb := rfl, nd := S.nd, rm := hr, calm := rfl, tk := takes_of rfl rfl rfl rfl, po := passes_of rfl, eN := rfl, esc := rfl, stk := rfl, frm := rfl, fn := fun _ => rfl }
    obtain ⟨t, p, qq⟩ := (hd _ _ B).ex
    refine ⟨t, p, qq F (L2.start N vs) H (startD N ds) M _ _ ⟨hs, rfE_start r, hm⟩ ?_ ⟨?_, ?_, ?_, ?_⟩ (hw ds M q ex hl h)⟩
    · intro cls d σ H' x ρ M' F' e k xa q'
      exact hx cls d H' x M' F' e k.same k.mem xa q'
    · intro σ' H' ρ' M' F' e k q'
      exact hq _ H' _ M' F' e k.same k.mem .non q'
    · intro σ' H' ρ' M' F' e k q'
      exact q'
    · intro σ' H' ρ' M' F' e k q'
      exact q'
    · intro v σ' H' ρ' d M' F' e k r' q'
      exact hq v H' d M' F' e k.same k.mem r' q'
/-- what a law of ints promises -/
def spLaw (K : PySem.W.Frag) (n : Nat) : Sp := fun vs H Q _ => ∃ (a : Addr) (ns : List Int), vs = [.ref a] ∧ SqL K H a (ns.map V.int) ∧ ns.length ≤ n ∧ ∀ v H', v = .bl true → Q v H'
def s_lawN (n : Nat) : DSp := fun ds M q _ => ∃ ns : List Int, ds = [.lst (ns.map D.int)] ∧ ns.length ≤ n ∧ M = (fun _ => none) ∧ ∀ M', q (.bl true) M'
theorem rfs_ints {G : Gx} {F : Hp} : ∀ ns : List Int, Rfs G F (ns.map V.int) (ns.map D.int)
  | [] => .nil
  | n :: ns => .cons (.int n) (rfs_ints ns)
theorem law_lift {G : Gx} {n : Nat} {vs : List V} {H : Hp} {Q : VK} {E : XK} (h : spLaw G.K n vs H Q E) : liftSp G 1 (s_lawN n) vs H Q E := by
  obtain ⟨a, ns, rfl, hS, hl, hq⟩ := h
  refine ⟨fun b => if b = a then H b else none, [.lst (ns.map D.int)], fun _ => none, fun d _ => d = .bl true, fun _ _ => False, rfl, fun b o e => ?_, (fun a c e => (by cases e)), .cons (.lst ?_ (rfs_ints ns)) .nil, ⟨ns, rfl, hl, rfl, fun M' => rfl⟩, fun v H' d M' F' e s m r q => ?_, fun cls d H' x M' F' _ _ _ _ q => q.elim⟩
  · dsimp only at e
    split at e
    · exact e
    · cases e
  · rcases hS with (h | ⟨o, h⟩) | h
    · exact .inl (.inl (by dsimp only; rw [if_pos rfl]; exact h))
    · exact .inl (.inr ⟨o, by dsimp only; rw [if_pos rfl]; exact h⟩)
    · exact .inr h
  · subst q
    cases r
    exact hq _ _ rfl
theorem na_k {K : PySem.W.Frag} {h : Heap} {C : Addr} {f : Str} {g : Prop} (c : Cls K C) (X : K.In h) (a : PySem.W.findIn K (.ref C) f = some none) (nx : NoAttr K C f → g) : g := nx a
theorem none_k {K : PySem.W.Frag} {h : Heap} {mg : Str → Option Value} {x : Str} {g : Prop} (X : K.In h) (G : h.Ns mainGlobals mg) (a : PySem.W.nsIn K mainGlobals x = some none) (nx : mg x = none → g) : g := nx (PySem.W.mg_none_of X G a)
theorem cls_k {K : PySem.W.Frag} {h : Heap} {mg : Str → Option Value} {x : Str} {C : Addr} {g : Prop} (X : K.In h) (G : h.Ns mainGlobals mg) (a : PySem.W.nsIn K mainGlobals x = some (some (.ref C)))
    (pg : PySem.W.plainGet K C Str.empty = true) (hd : PySem.W.hasDictIn K C = true) (po : PySem.W.plainOver K C = true) (sa : PySem.W.findIn K (.ref C) "__setattr__" = some (some (.builtin "object.__setattr__"))) (mk : PySem.W.makesIn K C = true) (kc : PySem.W.keepIn K (.ref C) = true)
    (nx : mg x = some (.ref C) → Cls K C → PySem.W.makesIn K C = true → PySem.W.keepIn K (.ref C) = true → g) : g := nx (PySem.W.mg_of X G a) ⟨pg, hd, po, sa⟩ mk kc
theorem glob_k {K : PySem.W.Frag} {h : Heap} {mg : Str → Option Value} {x qual : Str} {st : Stmt} {f : Addr} {oc : Value} {od an : Option Addr} {osl : Array (Option Value)} {kV doc pm cdv ct : Value} {g : Prop} (X : K.In h) (G : h.Ns mainGlobals mg) (a : PySem.W.nsIn K mainGlobals x = some (some (.ref f)))
    (l : K.lookup f = some ⟨oc, od, .func (PySem.W.fnOf x qual (defArgs st) (defBody st) (defScope st) .none kV doc pm an cdv ct), osl⟩) (c : PySem.W.codeIn K cdv qual = true) (k : PySem.W.keepIn K (.ref f) = true)
    (nx : mg x = some (.ref f) → Fun K x qual st f (PySem.W.fnOf x qual (defArgs st) (defBody st) (defScope st) .none kV doc pm an cdv ct) → g) : g := nx (PySem.W.mg_of X G a) (fun_mk l c k)
theorem meth_k {K : PySem.W.Frag} {h : Heap} {x qual : Str} {st : Stmt} {f C : Addr} {oc : Value} {od an : Option Addr} {osl : Array (Option Value)} {kV doc pm cdv ct : Value} {g : Prop} (cl : Cls K C) (X : K.In h) (a : PySem.W.findIn K (.ref C) x = some (some (.ref f))) (i : PySem.W.isFn K (.ref f) = true)
    (l : K.lookup f = some ⟨oc, od, .func (PySem.W.fnOf x qual (defArgs st) (defBody st) (defScope st) .none kV doc pm an cdv ct), osl⟩) (c : PySem.W.codeIn K cdv qual = true) (k : PySem.W.keepIn K (.ref f) = true)
    (nx : PySem.W.findIn K (.ref C) x = some (some (.ref f)) → PySem.W.isFn K (.ref f) = true → Fun K x qual st f (PySem.W.fnOf x qual (defArgs st) (defBody st) (defScope st) .none kV doc pm an cdv ct) → g) : g := nx a i (fun_mk l c k)
end DL
namespace DL
open PySem PySem.Spec L2
/-! the readings, for simp: what follows is a constant until it is reached -/
section
variable {ρ : Env'} {M : Mem} {Q : QE} {Ex : QX} {k : DK} {w w1 w2 wa wb wc we wo : DW} {wr wA2 : DWA} {s s' : DWS} {wt wt' : DWT} {d : D} {i j : Nat}
@[simp ↓] theorem e_var : wVar i ρ M Q Ex = match ρ[i]? with | some (some d) => Q d M | _ => False := id rfl
@[simp ↓] theorem e_c : wC d ρ M Q Ex = Q d M := id rfl
def kBin2 (r : R2D) (x : D) (Q : QE) : QE := fun y M2 => r x y M2 Q
@[simp ↓] theorem kBin2_ap {r : R2D} {x : D} {Q : QE} {y : D} {M2 : Mem} : kBin2 r x Q y M2 = (r x y M2 Q) := id rfl
def kBin (r : R2D) (wb : DW) (ρ : Env') (Q : QE) (Ex : QX) : QE := fun x M1 => wb ρ M1 (kBin2 r x Q) Ex
@[simp ↓] theorem kBin_ap {r : R2D} {wb : DW} {ρ : Env'} {Q : QE} {Ex : QX} {x : D} {M1 : Mem} : kBin r wb ρ Q Ex x M1 = (wb ρ M1 (kBin2 r x Q) Ex) := id rfl
@[simp ↓] theorem e_bin {r : R2D} : wBin r wa wb ρ M Q Ex = wa ρ M (kBin r wb ρ Q Ex) Ex := id rfl
def kTB (Q : Bool → Mem → Prop) : QE := fun d M1 => match d with | .bl b => Q b M1 | _ => False
@[simp ↓] theorem kTB_ap {Q : Bool → Mem → Prop} {d : D} {M1 : Mem} : kTB Q d M1 = (match d with | .bl b => Q b M1 | _ => False) := id rfl
@[simp ↓] theorem e_tb {Q : Bool → Mem → Prop} : wTB w ρ M Q Ex = w ρ M (kTB Q) Ex := id rfl
def kNot (Q : Bool → Mem → Prop) : Bool → Mem → Prop := fun b M1 => Q (!b) M1
@[simp ↓] theorem kNot_ap {Q : Bool → Mem → Prop} {b : Bool} {M1 : Mem} : kNot Q b M1 = (Q (!b) M1) := id rfl
@[simp ↓] theorem e_not {Q : Bool → Mem → Prop} : wNot wt ρ M Q Ex = wt ρ M (kNot Q) Ex := id rfl
def kAnd (w : DWT) (ρ : Env') (Q : Bool → Mem → Prop) (Ex : QX) : Bool → Mem → Prop := fun b M1 => if b = true then w ρ M1 Q Ex else Q false M1
@[simp ↓] theorem kAnd_ap {w : DWT} {ρ : Env'} {Q : Bool → Mem → Prop} {Ex : QX} {b : Bool} {M1 : Mem} : kAnd w ρ Q Ex b M1 = (if b = true then w ρ M1 Q Ex else Q false M1) := id rfl
@[simp ↓] theorem e_and {Q : Bool → Mem → Prop} : wAnd wt wt' ρ M Q Ex = wt ρ M (kAnd wt' ρ Q Ex) Ex := id rfl
def kOr (w : DWT) (ρ : Env') (Q : Bool → Mem → Prop) (Ex : QX) : Bool → Mem → Prop := fun b M1 => if b = true then Q true M1 else w ρ M1 Q Ex
@[simp ↓] theorem kOr_ap {w : DWT} {ρ : Env'} {Q : Bool → Mem → Prop} {Ex : QX} {b : Bool} {M1 : Mem} : kOr w ρ Q Ex b M1 = (if b = true then Q true M1 else w ρ M1 Q Ex) := id rfl
@[simp ↓] theorem e_or {Q : Bool → Mem → Prop} : wOr wt wt' ρ M Q Ex = wt ρ M (kOr wt' ρ Q Ex) Ex := id rfl
def kAndV (w : DW) (ρ : Env') (Q : QE) (Ex : QX) : QE := fun x M1 => match x with | .bl c => (if c = true then w ρ M1 Q Ex else Q (.bl false) M1) | _ => False
@[simp ↓] theorem kAndV_ap {w : DW} {ρ : Env'} {Q : QE} {Ex : QX} {x : D} {M1 : Mem} : kAndV w ρ Q Ex x M1 = (match x with | .bl c => (if c = true then w ρ M1 Q Ex else Q (.bl false) M1) | _ => False) := id rfl
@[simp ↓] theorem e_andV : wAndV wa wb ρ M Q Ex = wa ρ M (kAndV wb ρ Q Ex) Ex := id rfl
def kOrV (w : DW) (ρ : Env') (Q : QE) (Ex : QX) : QE := fun x M1 => match x with | .bl c => (if c = true then Q (.bl true) M1 else w ρ M1 Q Ex) | _ => False
@[simp ↓] theorem kOrV_ap {w : DW} {ρ : Env'} {Q : QE} {Ex : QX} {x : D} {M1 : Mem} : kOrV w ρ Q Ex x M1 = (match x with | .bl c => (if c = true then Q (.bl true) M1 else w ρ M1 Q Ex) | _ => False) := id rfl
@[simp ↓] theorem e_orV : wOrV wa wb ρ M Q Ex = wa ρ M (kOrV wb ρ Q Ex) Ex := id rfl
def kNotV (Q : QE) : QE := fun x M1 => match x with | .bl c => Q (.bl (!c)) M1 | _ => False
@[simp ↓] theorem kNotV_ap {Q : QE} {x : D} {M1 : Mem} : kNotV Q x M1 = (match x with | .bl c => Q (.bl (!c)) M1 | _ => False) := id rfl
@[simp ↓] theorem e_notV : wNotV wa ρ M Q Ex = wa ρ M (kNotV Q) Ex := id rfl
def kIfE (wa : DW) (wb : DW) (ρ : Env') (Q : QE) (Ex : QX) : Bool → Mem → Prop := fun b M1 => if b = true then wa ρ M1 Q Ex else wb ρ M1 Q Ex
@[simp ↓] theorem kIfE_ap {wa : DW} {wb : DW} {ρ : Env'} {Q : QE} {Ex : QX} {b : Bool} {M1 : Mem} : kIfE wa wb ρ Q Ex b M1 = (if b = true then wa ρ M1 Q Ex else wb ρ M1 Q Ex) := id rfl
@[simp ↓] theorem e_ifE : wIfE wt wa wb ρ M Q Ex = wt ρ M (kIfE wa wb ρ Q Ex) Ex := id rfl
@[simp ↓] theorem e_nil {Q : List D → Mem → Prop} : wNil ρ M Q Ex = Q [] M := id rfl
def kCons2 (x : D) (Q : List D → Mem → Prop) : List D → Mem → Prop := fun xs M2 => Q (x :: xs) M2
@[simp ↓] theorem kCons2_ap {x : D} {Q : List D → Mem → Prop} {xs : List D} {M2 : Mem} : kCons2 x Q xs M2 = (Q (x :: xs) M2) := id rfl
def kCons (r : DWA) (ρ : Env') (Q : List D → Mem → Prop) (Ex : QX) : QE := fun x M1 => r ρ M1 (kCons2 x Q) Ex
@[simp ↓] theorem kCons_ap {r : DWA} {ρ : Env'} {Q : List D → Mem → Prop} {Ex : QX} {x : D} {M1 : Mem} : kCons r ρ Q Ex x M1 = (r ρ M1 (kCons2 x Q) Ex) := id rfl
@[simp ↓] theorem e_cons {Q : List D → Mem → Prop} : wCons w wr ρ M Q Ex = w ρ M (kCons wr ρ Q Ex) Ex := id rfl
def kTup (Q : QE) : List D → Mem → Prop := fun xs M1 => xs.length ≤ sizeLine ∧ Q (.tup xs) M1
@[simp ↓] theorem kTup_ap {Q : QE} {xs : List D} {M1 : Mem} : kTup Q xs M1 = (xs.length ≤ sizeLine ∧ Q (.tup xs) M1) := id rfl
@[simp ↓] theorem e_tup : wTup wr ρ M Q Ex = wr ρ M (kTup Q) Ex := id rfl
def kLst (Q : QE) : List D → Mem → Prop := fun xs M1 => xs.length ≤ sizeLine ∧ Q (.lst xs) M1
@[simp ↓] theorem kLst_ap {Q : QE} {xs : List D} {M1 : Mem} : kLst Q xs M1 = (xs.length ≤ sizeLine ∧ Q (.lst xs) M1) := id rfl
@[simp ↓] theorem e_lst : wLst wr ρ M Q Ex = wr ρ M (kLst Q) Ex := id rfl
def kLstO (Q : QE) : List D → Mem → Prop := fun xs M1 => xs.length ≤ sizeLine ∧ ∀ p, M1 p = none → Q (.ptr p) (M1.set p (.lst xs))
@[simp ↓] theorem kLstO_ap {Q : QE} {xs : List D} {M1 : Mem} : kLstO Q xs M1 = (xs.length ≤ sizeLine ∧ ∀ p, M1 p = none → Q (.ptr p) (M1.set p (.lst xs))) := id rfl
@[simp ↓] theorem e_lstO : wLstO wr ρ M Q Ex = wr ρ M (kLstO Q) Ex := id rfl
@[simp ↓] theorem e_noP {Q : Option Int → Mem → Prop} : wNoP ρ M Q Ex = Q none M := id rfl
def kP (Q : Option Int → Mem → Prop) : QE := fun d M1 => match d with | .int i => Q (some i) M1 | _ => False
@[simp ↓] theorem kP_ap {Q : Option Int → Mem → Prop} {d : D} {M1 : Mem} : kP Q d M1 = (match d with | .int i => Q (some i) M1 | _ => False) := id rfl
@[simp ↓] theorem e_p {Q : Option Int → Mem → Prop} : wP w ρ M Q Ex = w ρ M (kP Q) Ex := id rfl
def kSl3 (x : D) (l : Option Int) (Q : QE) : Option Int → Mem → Prop := fun u M3 => match x with
  | .tup ds => Q (.tup (cutD ds l u)) M3
  | .str z => z.length ≤ sizeLine ∧ Q (.str (cutS z l u)) M3
  | x => match vw M3 x with
    | some ds => Q (.lst (cutD ds l u)) M3
    | none => False
@[simp ↓] theorem kSl3_ap {x : D} {l : Option Int} {Q : QE} {u : Option Int} {M3 : Mem} : kSl3 x l Q u M3 = (match x with
  | .tup ds => Q (.tup (cutD ds l u)) M3
  | .str z => z.length ≤ sizeLine ∧ Q (.str (cutS z l u)) M3
  | x => match vw M3 x with
    | some ds => Q (.lst (cutD ds l u)) M3
    | none => False) := id rfl
def kSl2 (wh : DWO) (ρ : Env') (x : D) (Q : QE) (Ex : QX) : Option Int → Mem → Prop := fun l M2 => wh ρ M2 (kSl3 x l Q) Ex
@[simp ↓] theorem kSl2_ap {wh : DWO} {ρ : Env'} {x : D} {Q : QE} {Ex : QX} {l : Option Int} {M2 : Mem} : kSl2 wh ρ x Q Ex l M2 = (wh ρ M2 (kSl3 x l Q) Ex) := id rfl
def kSl (wl : DWO) (wh : DWO) (ρ : Env') (Q : QE) (Ex : QX) : QE := fun x M1 => wl ρ M1 (kSl2 wh ρ x Q Ex) Ex
@[simp ↓] theorem kSl_ap {wl : DWO} {wh : DWO} {ρ : Env'} {Q : QE} {Ex : QX} {x : D} {M1 : Mem} : kSl wl wh ρ Q Ex x M1 = (wl ρ M1 (kSl2 wh ρ x Q Ex) Ex) := id rfl
@[simp ↓] theorem e_sl {wl wh : DWO} : wSl we wl wh ρ M Q Ex = we ρ M (kSl wl wh ρ Q Ex) Ex := id rfl
def kRev (Q : QE) : QE := fun x M1 => match vw M1 x with | some ds => Q (.lst ds.reverse) M1 | none => False
@[simp ↓] theorem kRev_ap {Q : QE} {x : D} {M1 : Mem} : kRev Q x M1 = (match vw M1 x with | some ds => Q (.lst ds.reverse) M1 | none => False) := id rfl
@[simp ↓] theorem e_rev : wRev we ρ M Q Ex = we ρ M (kRev Q) Ex := id rfl
def kCB (r : R1D) (Q : QE) : List D → Mem → Prop := fun ds M1 => r ds M1 Q
@[simp ↓] theorem kCB_ap {r : R1D} {Q : QE} {ds : List D} {M1 : Mem} : kCB r Q ds M1 = (r ds M1 Q) := id rfl
@[simp ↓] theorem e_cb {r : R1D} : wCB r wr ρ M Q Ex = wr ρ M (kCB r Q) Ex := id rfl
def kCBK2 (r : RKD) (ds : List D) (Q : QE) : List D → Mem → Prop := fun es M2 => r ds es M2 Q
@[simp ↓] theorem kCBK2_ap {r : RKD} {ds : List D} {Q : QE} {es : List D} {M2 : Mem} : kCBK2 r ds Q es M2 = (r ds es M2 Q) := id rfl
def kCBK (r : RKD) (wk : DWA) (ρ : Env') (Q : QE) (Ex : QX) : List D → Mem → Prop := fun ds M1 => wk ρ M1 (kCBK2 r ds Q) Ex
@[simp ↓] theorem kCBK_ap {r : RKD} {wk : DWA} {ρ : Env'} {Q : QE} {Ex : QX} {ds : List D} {M1 : Mem} : kCBK r wk ρ Q Ex ds M1 = (wk ρ M1 (kCBK2 r ds Q) Ex) := id rfl
@[simp ↓] theorem e_cbk {r : RKD} : wCBK r wr wA2 ρ M Q Ex = wr ρ M (kCBK r wA2 ρ Q Ex) Ex := id rfl
def kEx (ρ : Env') (Ex : QX) : Exn → Mem → Prop := fun x M2 => Ex x ρ M2
@[simp ↓] theorem kEx_ap {ρ : Env'} {Ex : QX} {x : Exn} {M2 : Mem} : kEx ρ Ex x M2 = (Ex x ρ M2) := id rfl
def kCall (n : Nat) (sp : DSp) (ρ : Env') (Q : QE) (Ex : QX) : List D → Mem → Prop := fun ds M1 => ds.length = n ∧ sp ds M1 Q (kEx ρ Ex)
@[simp ↓] theorem kCall_ap {n : Nat} {sp : DSp} {ρ : Env'} {Q : QE} {Ex : QX} {ds : List D} {M1 : Mem} : kCall n sp ρ Q Ex ds M1 = (ds.length = n ∧ sp ds M1 Q (kEx ρ Ex)) := id rfl
@[simp ↓] theorem e_call {n : Nat} {sp : DSp} : wCall n sp wr ρ M Q Ex = wr ρ M (kCall n sp ρ Q Ex) Ex := id rfl
def kMeth2 (n : Nat) (sp : DSp) (ρ : Env') (x : D) (Q : QE) (Ex : QX) : List D → Mem → Prop := fun ds M2 => ds.length + 1 = n ∧ sp (x :: ds) M2 Q (kEx ρ Ex)
@[simp ↓] theorem kMeth2_ap {n : Nat} {sp : DSp} {ρ : Env'} {x : D} {Q : QE} {Ex : QX} {ds : List D} {M2 : Mem} : kMeth2 n sp ρ x Q Ex ds M2 = (ds.length + 1 = n ∧ sp (x :: ds) M2 Q (kEx ρ Ex)) := id rfl
def kMeth (C : Addr) (m : Str) (n : Nat) (sp : DSp) (w : DWA) (ρ : Env') (Q : QE) (Ex : QX) : QE := fun x M1 => (match insD M1 x with
  | some (C', fs) => C' = C ∧ fs.lookup m = none
  | none => False) ∧ w ρ M1 (kMeth2 n sp ρ x Q Ex) Ex
@[simp ↓] theorem kMeth_ap {C : Addr} {m : Str} {n : Nat} {sp : DSp} {w : DWA} {ρ : Env'} {Q : QE} {Ex : QX} {x : D} {M1 : Mem} : kMeth C m n sp w ρ Q Ex x M1 = ((match insD M1 x with
  | some (C', fs) => C' = C ∧ fs.lookup m = none
  | none => False) ∧ w ρ M1 (kMeth2 n sp ρ x Q Ex) Ex) := id rfl
@[simp ↓] theorem e_meth {C : Addr} {m : Str} {n : Nat} {sp : DSp} : wMeth C m n sp wo wr ρ M Q Ex = wo ρ M (kMeth C m n sp wr ρ Q Ex) Ex := id rfl
def kMake2 (p : Addr) (Q : QE) : QE := fun d M2 => d = .non ∧ Q (.ptr p) M2
@[simp ↓] theorem kMake2_ap {p : Addr} {Q : QE} {d : D} {M2 : Mem} : kMake2 p Q d M2 = (d = .non ∧ Q (.ptr p) M2) := id rfl
def kMake (C : Addr) (n : Nat) (sp : DSp) (ρ : Env') (Q : QE) (Ex : QX) : List D → Mem → Prop := fun ds M1 => ∀ p, M1 p = none → ds.length + 1 = n ∧ sp (.ptr p :: ds) (M1.set p (.ins C [])) (kMake2 p Q) (kEx ρ Ex)
@[simp ↓] theorem kMake_ap {C : Addr} {n : Nat} {sp : DSp} {ρ : Env'} {Q : QE} {Ex : QX} {ds : List D} {M1 : Mem} : kMake C n sp ρ Q Ex ds M1 = (∀ p, M1 p = none → ds.length + 1 = n ∧ sp (.ptr p :: ds) (M1.set p (.ins C [])) (kMake2 p Q) (kEx ρ Ex)) := id rfl
@[simp ↓] theorem e_make {C : Addr} {n : Nat} {sp : DSp} : wMake C n sp wr ρ M Q Ex = wr ρ M (kMake C n sp ρ Q Ex) Ex := id rfl
def kBM2 (r : DRM) (x : D) (Q : QE) : List D → Mem → Prop := fun ds M2 => r x ds M2 Q
@[simp ↓] theorem kBM2_ap {r : DRM} {x : D} {Q : QE} {ds : List D} {M2 : Mem} : kBM2 r x Q ds M2 = (r x ds M2 Q) := id rfl
def kBM (r : DRM) (w : DWA) (ρ : Env') (Q : QE) (Ex : QX) : QE := fun x M1 => (vw M1 x).isSome = true ∧ w ρ M1 (kBM2 r x Q) Ex
@[simp ↓] theorem kBM_ap {r : DRM} {w : DWA} {ρ : Env'} {Q : QE} {Ex : QX} {x : D} {M1 : Mem} : kBM r w ρ Q Ex x M1 = ((vw M1 x).isSome = true ∧ w ρ M1 (kBM2 r x Q) Ex) := id rfl
@[simp ↓] theorem e_bm {r : DRM} : wBM r wo wr ρ M Q Ex = wo ρ M (kBM r wr ρ Q Ex) Ex := id rfl
@[simp ↓] theorem e_nilS : sNil k ρ M = k.nx ρ M := id rfl
@[simp ↓] theorem e_seq : sSeq s s' k ρ M = s { k with nx := s' k } ρ M := id rfl
def kSet (i : Nat) (k : DK) (ρ : Env') : QE := fun d M1 => k.nx (ρ.set i (some d)) M1
@[simp ↓] theorem kSet_ap {i : Nat} {k : DK} {ρ : Env'} {d : D} {M1 : Mem} : kSet i k ρ d M1 = (k.nx (ρ.set i (some d)) M1) := id rfl
@[simp ↓] theorem e_set : sSet i w k ρ M = w ρ M (kSet i k ρ) k.ex := id rfl
@[simp ↓] theorem e_ret : sRet w k ρ M = w ρ M k.rt k.ex := id rfl
@[simp ↓] theorem e_retN : sRetN k ρ M = k.rt .non M := id rfl
def kDrop (k : DK) (ρ : Env') : QE := fun d M1 => k.nx ρ M1
@[simp ↓] theorem kDrop_ap {k : DK} {ρ : Env'} {d : D} {M1 : Mem} : kDrop k ρ d M1 = (k.nx ρ M1) := id rfl
@[simp ↓] theorem e_drop : sDrop w k ρ M = w ρ M (kDrop k ρ) k.ex := id rfl
def kIf (s : DWS) (s' : DWS) (k : DK) (ρ : Env') : Bool → Mem → Prop := fun b M1 => if b = true then s k ρ M1 else s' k ρ M1
@[simp ↓] theorem kIf_ap {s : DWS} {s' : DWS} {k : DK} {ρ : Env'} {b : Bool} {M1 : Mem} : kIf s s' k ρ b M1 = (if b = true then s k ρ M1 else s' k ρ M1) := id rfl
@[simp ↓] theorem e_if : sIf wt s s' k ρ M = wt ρ M (kIf s s' k ρ) k.ex := id rfl
@[simp ↓] theorem e_brk : sBreak k ρ M = k.bk ρ M := id rfl
@[simp ↓] theorem e_cnt : sCont k ρ M = k.ct ρ M := id rfl
@[simp ↓] theorem e_nev : sNever k ρ M = False := id rfl
@[simp ↓] theorem e_gnm {Q : Env' → Mem → Prop} : gNm i d ρ M Q = Q (ρ.set i (some d)) M := id rfl
@[simp ↓] theorem e_gtp {g : DWGs} {Q : Env' → Mem → Prop} {ds : List D} : gTp g (.tup ds) ρ M Q = g ds ρ M Q := id rfl
@[simp ↓] theorem e_gsn {Q : Env' → Mem → Prop} : gsNil [] ρ M Q = Q ρ M := id rfl
def kGs (g' : DWGs) (ds : List D) (Q : Env' → Mem → Prop) : Env' → Mem → Prop := fun ρ' M' => g' ds ρ' M' Q
@[simp ↓] theorem kGs_ap {g' : DWGs} {ds : List D} {Q : Env' → Mem → Prop} {ρ' : Env'} {M' : Mem} : kGs g' ds Q ρ' M' = (g' ds ρ' M' Q) := id rfl
@[simp ↓] theorem e_gsc {g : DWG} {g' : DWGs} {Q : Env' → Mem → Prop} {ds : List D} : gsCons g g' (d :: ds) ρ M Q = g d ρ M (kGs g' ds Q) := id rfl
def kAsg (g : DWG) (k : DK) (ρ : Env') : QE := fun d M1 => g d ρ M1 k.nx
@[simp ↓] theorem kAsg_ap {g : DWG} {k : DK} {ρ : Env'} {d : D} {M1 : Mem} : kAsg g k ρ d M1 = (g d ρ M1 k.nx) := id rfl
@[simp ↓] theorem e_asg {g : DWG} : sAsg g w k ρ M = w ρ M (kAsg g k ρ) k.ex := id rfl
def kPar (i : Nat) (j : Nat) (k : DK) (ρ : Env') : List D → Mem → Prop := fun ds M1 => match ds with | [d1, d2] => k.nx ((ρ.set i (some d1)).set j (some d2)) M1 | _ => False
@[simp ↓] theorem kPar_ap {i : Nat} {j : Nat} {k : DK} {ρ : Env'} {ds : List D} {M1 : Mem} : kPar i j k ρ ds M1 = (match ds with | [d1, d2] => k.nx ((ρ.set i (some d1)).set j (some d2)) M1 | _ => False) := id rfl
@[simp ↓] theorem e_par : sPar i j wr k ρ M = wr ρ M (kPar i j k ρ) k.ex := id rfl
def kFrz (Q : QE) : QE := fun x M1 => match x with
  | .ptr p => (match M1 p with
    | some (.ins C fs) => Q (.obj C fs) (M1.del p)
    | some (.lst ds) => Q (.lst ds) (M1.del p)
    | _ => False)
  | _ => False
@[simp ↓] theorem kFrz_ap {Q : QE} {x : D} {M1 : Mem} : kFrz Q x M1 = (match x with
  | .ptr p => (match M1 p with
    | some (.ins C fs) => Q (.obj C fs) (M1.del p)
    | some (.lst ds) => Q (.lst ds) (M1.del p)
    | _ => False)
  | _ => False) := id rfl
@[simp ↓] theorem e_frz : wFrz w ρ M Q Ex = w ρ M (kFrz Q) Ex := id rfl
def kFor (bind : DWG) (body : DWS) (k : DK) (ρ : Env') : List D → (Mem → Prop) → Mem → Prop := fun ds g M1 => forL g bind body k ds ρ M1
@[simp ↓] theorem kFor_ap {bind : DWG} {body : DWS} {k : DK} {ρ : Env'} {ds : List D} {g : Mem → Prop} {M1 : Mem} : kFor bind body k ρ ds g M1 = (forL g bind body k ds ρ M1) := id rfl
@[simp ↓] theorem e_for {wi : DWI} {bind : DWG} {body : DWS} : sFor wi bind body k ρ M = wi ρ M (kFor bind body k ρ) k.ex := id rfl
@[simp ↓] theorem e_whl {body : DWS} : sWhile wt body k ρ M = ∃ n, whN wt body k n ρ M := id rfl
@[simp ↓] theorem e_wyes {Q : Bool → Mem → Prop} : wYes ρ M Q Ex = Q true M := id rfl
def kPut3 (x : D) (v : D) (k : DK) (ρ : Env') : QE := fun y M3 => putItem x y v M3 (k.nx ρ)
@[simp ↓] theorem kPut3_ap {x : D} {v : D} {k : DK} {ρ : Env'} {y : D} {M3 : Mem} : kPut3 x v k ρ y M3 = (putItem x y v M3 (k.nx ρ)) := id rfl
def kPut2 (wi : DW) (v : D) (k : DK) (ρ : Env') : QE := fun x M2 => wi ρ M2 (kPut3 x v k ρ) k.ex
@[simp ↓] theorem kPut2_ap {wi : DW} {v : D} {k : DK} {ρ : Env'} {x : D} {M2 : Mem} : kPut2 wi v k ρ x M2 = (wi ρ M2 (kPut3 x v k ρ) k.ex) := id rfl
def kPut (wo : DW) (wi : DW) (k : DK) (ρ : Env') : QE := fun v M1 => wo ρ M1 (kPut2 wi v k ρ) k.ex
@[simp ↓] theorem kPut_ap {wo : DW} {wi : DW} {k : DK} {ρ : Env'} {v : D} {M1 : Mem} : kPut wo wi k ρ v M1 = (wo ρ M1 (kPut2 wi v k ρ) k.ex) := id rfl
@[simp ↓] theorem e_put {wi : DW} : sPut wo wi we k ρ M = we ρ M (kPut wo wi k ρ) k.ex := id rfl
@[simp ↓] theorem e_dict0 {n : Bool} : wDict0 n ρ M Q Ex = ∀ p, M p = none → Q (.ptr p) (M.set p (.dct n [])) := id rfl
def kDict2 (kk : D) (Q : QE) : QE := fun v M2 => dkey true kk ∧ ∀ p, M2 p = none → Q (.ptr p) (M2.set p (.dct true [(kk, v)]))
@[simp ↓] theorem kDict2_ap {kk : D} {Q : QE} {v : D} {M2 : Mem} : kDict2 kk Q v M2 = (dkey true kk ∧ ∀ p, M2 p = none → Q (.ptr p) (M2.set p (.dct true [(kk, v)]))) := id rfl
def kDict1 (wv : DW) (ρ : Env') (Q : QE) (Ex : QX) : QE := fun kk M1 => wv ρ M1 (kDict2 kk Q) Ex
@[simp ↓] theorem kDict1_ap {wv : DW} {ρ : Env'} {Q : QE} {Ex : QX} {kk : D} {M1 : Mem} : kDict1 wv ρ Q Ex kk M1 = (wv ρ M1 (kDict2 kk Q) Ex) := id rfl
@[simp ↓] theorem e_dict1 : wDict1 wa wb ρ M Q Ex = wa ρ M (kDict1 wb ρ Q Ex) Ex := id rfl
def kGet2 (x : D) (Q : QE) : QE := fun y M2 => match dctD M2 x with
  | some (n, kvs) => dkey n y ∧ Q ((dget kvs y).getD .non) M2
  | none => False
@[simp ↓] theorem kGet2_ap {x : D} {Q : QE} {y : D} {M2 : Mem} : kGet2 x Q y M2 = (match dctD M2 x with
  | some (n, kvs) => dkey n y ∧ Q ((dget kvs y).getD .non) M2
  | none => False) := id rfl
def kGet1 (we : DW) (ρ : Env') (Q : QE) (Ex : QX) : QE := fun x M1 => (dctD M1 x).isSome = true ∧ we ρ M1 (kGet2 x Q) Ex
@[simp ↓] theorem kGet1_ap {we : DW} {ρ : Env'} {Q : QE} {Ex : QX} {x : D} {M1 : Mem} : kGet1 we ρ Q Ex x M1 = ((dctD M1 x).isSome = true ∧ we ρ M1 (kGet2 x Q) Ex) := id rfl
@[simp ↓] theorem e_get1 : wGet1' wo we ρ M Q Ex = wo ρ M (kGet1 we ρ Q Ex) Ex := id rfl
def kGetB3 (x : D) (y : D) (Q : QE) : QE := fun z M3 => match dctD M3 x with
  | some (n, kvs) => dkey n y ∧ Q ((dget kvs y).getD z) M3
  | none => False
@[simp ↓] theorem kGetB3_ap {x : D} {y : D} {Q : QE} {z : D} {M3 : Mem} : kGetB3 x y Q z M3 = (match dctD M3 x with
  | some (n, kvs) => dkey n y ∧ Q ((dget kvs y).getD z) M3
  | none => False) := id rfl
def kGetB2 (wf : DW) (ρ : Env') (x : D) (Q : QE) (Ex : QX) : QE := fun y M2 => wf ρ M2 (kGetB3 x y Q) Ex
@[simp ↓] theorem kGetB2_ap {wf : DW} {ρ : Env'} {x : D} {Q : QE} {Ex : QX} {y : D} {M2 : Mem} : kGetB2 wf ρ x Q Ex y M2 = (wf ρ M2 (kGetB3 x y Q) Ex) := id rfl
def kGetB1 (we : DW) (wf : DW) (ρ : Env') (Q : QE) (Ex : QX) : QE := fun x M1 => (dctD M1 x).isSome = true ∧ we ρ M1 (kGetB2 wf ρ x Q Ex) Ex
@[simp ↓] theorem kGetB1_ap {we : DW} {wf : DW} {ρ : Env'} {Q : QE} {Ex : QX} {x : D} {M1 : Mem} : kGetB1 we wf ρ Q Ex x M1 = ((dctD M1 x).isSome = true ∧ we ρ M1 (kGetB2 wf ρ x Q Ex) Ex) := id rfl
@[simp ↓] theorem e_get2 {wf : DW} : wGet2' wo we wf ρ M Q Ex = wo ρ M (kGetB1 we wf ρ Q Ex) Ex := id rfl
def kFld (C : Addr) (f : Str) (Q : QE) : QE := fun x M1 => match insD M1 x with
  | some (C', fs) => C' = C ∧ (match fs.lookup f with | some d => Q d M1 | none => False)
  | none => False
@[simp ↓] theorem kFld_ap {C : Addr} {f : Str} {Q : QE} {x : D} {M1 : Mem} : kFld C f Q x M1 = (match insD M1 x with
  | some (C', fs) => C' = C ∧ (match fs.lookup f with | some d => Q d M1 | none => False)
  | none => False) := id rfl
@[simp ↓] theorem e_fld {C : Addr} {f : Str} : wFld C f w ρ M Q Ex = w ρ M (kFld C f Q) Ex := id rfl
def kSFld2 (C : Addr) (f : Str) (d : D) (k : DK) (ρ : Env') : QE := fun x M2 => match x with
  | .ptr a => (match M2 a with
    | some (.ins C' fs) => C' = C ∧ fs.length < 1000 ∧ k.nx ρ (M2.set a (.ins C (putD f d fs)))
    | _ => False)
  | _ => False
@[simp ↓] theorem kSFld2_ap {C : Addr} {f : Str} {d : D} {k : DK} {ρ : Env'} {x : D} {M2 : Mem} : kSFld2 C f d k ρ x M2 = (match x with
  | .ptr a => (match M2 a with
    | some (.ins C' fs) => C' = C ∧ fs.length < 1000 ∧ k.nx ρ (M2.set a (.ins C (putD f d fs)))
    | _ => False)
  | _ => False) := id rfl
def kSFld (C : Addr) (f : Str) (wo : DW) (k : DK) (ρ : Env') : QE := fun d M1 => wo ρ M1 (kSFld2 C f d k ρ) k.ex
@[simp ↓] theorem kSFld_ap {C : Addr} {f : Str} {wo : DW} {k : DK} {ρ : Env'} {d : D} {M1 : Mem} : kSFld C f wo k ρ d M1 = (wo ρ M1 (kSFld2 C f d k ρ) k.ex) := id rfl
@[simp ↓] theorem e_sfld {C : Addr} {f : Str} : sFldD C f wo we k ρ M = we ρ M (kSFld C f wo k ρ) k.ex := id rfl
def kAugI3 (x : D) (y : D) (old : D) (k : DK) (ρ : Env') : QE := fun v M4 => match old, v with
  | .int m, .int n => putItem x y (.int (m + n)) M4 (k.nx ρ)
  | _, _ => False
@[simp ↓] theorem kAugI3_ap {x : D} {y : D} {old : D} {k : DK} {ρ : Env'} {v : D} {M4 : Mem} : kAugI3 x y old k ρ v M4 = (match old, v with
  | .int m, .int n => putItem x y (.int (m + n)) M4 (k.nx ρ)
  | _, _ => False) := id rfl
def kAugI2 (we : DW) (x : D) (k : DK) (ρ : Env') : QE := fun y M2 => True ∧ ∃ i, y = .int i ∧ 0 ≤ i ∧ ∃ ds, vw M2 x = some ds ∧ ∃ old, L2.atI ds i = some old ∧ we ρ M2 (kAugI3 x y old k ρ) k.ex
@[simp ↓] theorem kAugI2_ap {we : DW} {x : D} {k : DK} {ρ : Env'} {y : D} {M2 : Mem} : kAugI2 we x k ρ y M2 = (True ∧ ∃ i, y = .int i ∧ 0 ≤ i ∧ ∃ ds, vw M2 x = some ds ∧ ∃ old, L2.atI ds i = some old ∧ we ρ M2 (kAugI3 x y old k ρ) k.ex) := id rfl
def kAugI (wi : DW) (we : DW) (k : DK) (ρ : Env') : QE := fun x M1 => wi ρ M1 (kAugI2 we x k ρ) k.ex
@[simp ↓] theorem kAugI_ap {wi : DW} {we : DW} {k : DK} {ρ : Env'} {x : D} {M1 : Mem} : kAugI wi we k ρ x M1 = (wi ρ M1 (kAugI2 we x k ρ) k.ex) := id rfl
@[simp ↓] theorem e_augI {wi : DW} : sAugI wo wi we k ρ M = wo ρ M (kAugI wi we k ρ) k.ex := id rfl
def kAug (i : Nat) (r : R2D) (d : D) (k : DK) (ρ : Env') : QE := fun v M1 => r d v M1 (kSet i k ρ)
@[simp ↓] theorem kAug_ap {i : Nat} {r : R2D} {d : D} {k : DK} {ρ : Env'} {v : D} {M1 : Mem} : kAug i r d k ρ v M1 = (r d v M1 (kSet i k ρ)) := id rfl
def kWiL (R : List D → (Mem → Prop) → Mem → Prop) : QE := fun d M1 => match d with
  | .lst ds => R ds (fun _ => True) M1
  | .ptr p => (match M1 p with | some (.lst ds) => R ds (fun M2 => M2 p = some (.lst ds)) M1 | _ => False)
  | _ => False
@[simp ↓] theorem kWiL_ap {R : List D → (Mem → Prop) → Mem → Prop} {d : D} {M1 : Mem} : kWiL R d M1 = (match d with
  | .lst ds => R ds (fun _ => True) M1
  | .ptr p => (match M1 p with | some (.lst ds) => R ds (fun M2 => M2 p = some (.lst ds)) M1 | _ => False)
  | _ => False) := id rfl
@[simp ↓] theorem e_wiL {R : List D → (Mem → Prop) → Mem → Prop} : wiL w ρ M R Ex = w ρ M (kWiL R) Ex := id rfl
def kWiT (R : List D → (Mem → Prop) → Mem → Prop) : QE := fun d M1 => match d with | .tup ds => R ds (fun _ => True) M1 | _ => False
@[simp ↓] theorem kWiT_ap {R : List D → (Mem → Prop) → Mem → Prop} {d : D} {M1 : Mem} : kWiT R d M1 = (match d with | .tup ds => R ds (fun _ => True) M1 | _ => False) := id rfl
@[simp ↓] theorem e_wiT {R : List D → (Mem → Prop) → Mem → Prop} : wiT w ρ M R Ex = w ρ M (kWiT R) Ex := id rfl
def kWiR1 (R : List D → (Mem → Prop) → Mem → Prop) : List D → Mem → Prop := fun ds M1 => match ds with
  | [.int j] => (-(2 ^ 62) ≤ j ∧ j < 2 ^ 62) ∧ R (intsD 0 j.toNat) (fun _ => True) M1
  | _ => False
@[simp ↓] theorem kWiR1_ap {R : List D → (Mem → Prop) → Mem → Prop} {ds : List D} {M1 : Mem} : kWiR1 R ds M1 = (match ds with
  | [.int j] => (-(2 ^ 62) ≤ j ∧ j < 2 ^ 62) ∧ R (intsD 0 j.toNat) (fun _ => True) M1
  | _ => False) := id rfl
@[simp ↓] theorem e_wiR1 {R : List D → (Mem → Prop) → Mem → Prop} : wiR1 wr ρ M R Ex = wr ρ M (kWiR1 R) Ex := id rfl
def kWiR2 (R : List D → (Mem → Prop) → Mem → Prop) : List D → Mem → Prop := fun ds M1 => match ds with
  | [.int i, .int j] => (-(2 ^ 62) ≤ i ∧ i < 2 ^ 62 ∧ -(2 ^ 62) ≤ j ∧ j < 2 ^ 62) ∧ R (intsD i (j - i).toNat) (fun _ => True) M1
  | _ => False
@[simp ↓] theorem kWiR2_ap {R : List D → (Mem → Prop) → Mem → Prop} {ds : List D} {M1 : Mem} : kWiR2 R ds M1 = (match ds with
  | [.int i, .int j] => (-(2 ^ 62) ≤ i ∧ i < 2 ^ 62 ∧ -(2 ^ 62) ≤ j ∧ j < 2 ^ 62) ∧ R (intsD i (j - i).toNat) (fun _ => True) M1
  | _ => False) := id rfl
@[simp ↓] theorem e_wiR2 {R : List D → (Mem → Prop) → Mem → Prop} : wiR2 wr ρ M R Ex = wr ρ M (kWiR2 R) Ex := id rfl
def kWiK (R : List D → (Mem → Prop) → Mem → Prop) : QE := fun d M1 => match d with
  | .dct _ kvs => R (kvs.map (·.1)) (fun _ => True) M1
  | _ => False
@[simp ↓] theorem kWiK_ap {R : List D → (Mem → Prop) → Mem → Prop} {d : D} {M1 : Mem} : kWiK R d M1 = (match d with
  | .dct _ kvs => R (kvs.map (·.1)) (fun _ => True) M1
  | _ => False) := id rfl
@[simp ↓] theorem e_wiK {R : List D → (Mem → Prop) → Mem → Prop} : wiK w ρ M R Ex = w ρ M (kWiK R) Ex := id rfl
end
end DL
namespace DL
open PySem PySem.Spec L2
/-! values, for simp -/
section
variable {M : Mem} {Q : QE}
@[simp] theorem mem_ss {a : Addr} {c : Cell} : M.set a c a = some c := Mem.set_same
@[simp] theorem mem_set2 {a : Addr} {c c' : Cell} : (M.set a c).set a c' = M.set a c' := Mem.set_set
@[simp] theorem vw_lst {ds : List D} : vw M (.lst ds) = some ds := id rfl
@[simp] theorem vw_tup {ds : List D} : vw M (.tup ds) = none := id rfl
@[simp] theorem vw_int {i : Int} : vw M (.int i) = none := id rfl
@[simp] theorem vw_bl {b : Bool} : vw M (.bl b) = none := id rfl
@[simp] theorem vw_non : vw M .non = none := id rfl
@[simp] theorem vw_str {s : Str} : vw M (.str s) = none := id rfl
@[simp] theorem vw_dct {n : Bool} {k : List (D × D)} : vw M (.dct n k) = none := id rfl
@[simp] theorem vw_obj {C : Addr} {f : List (Str × D)} : vw M (.obj C f) = none := id rfl
@[simp] theorem vw_ty {t : String} : vw M (.ty t) = none := id rfl
theorem vw_ptr {p : Addr} {ds : List D} (h : M p = some (.lst ds)) : vw M (.ptr p) = some ds := by simp [vw, h]
@[simp] theorem vw_set {p : Addr} {ds : List D} : vw (M.set p (.lst ds)) (.ptr p) = some ds := vw_ptr Mem.set_same
@[simp] theorem dv_int {i : Int} : dv M (.int i) = .int i := id rfl
@[simp] theorem dv_bl {b : Bool} : dv M (.bl b) = .bl b := id rfl
@[simp] theorem dv_non : dv M .non = .non := id rfl
@[simp] theorem dv_str {s : Str} : dv M (.str s) = .str s := id rfl
@[simp] theorem dv_tup {ds : List D} : dv M (.tup ds) = .tup ds := id rfl
@[simp] theorem dv_lst {ds : List D} : dv M (.lst ds) = .lst ds := id rfl
theorem dv_ptr {p : Addr} {ds : List D} (h : M p = some (.lst ds)) : dv M (.ptr p) = .lst ds := by simp [dv, vw_ptr h]
@[simp] theorem dv_set {p : Addr} {ds : List D} : dv (M.set p (.lst ds)) (.ptr p) = .lst ds := dv_ptr Mem.set_same
@[simp] theorem dc_dct {n : Bool} {k : List (D × D)} : dctD M (.dct n k) = some (n, k) := id rfl
@[simp] theorem dc_tup {ds : List D} : dctD M (.tup ds) = none := id rfl
@[simp] theorem dc_lst {ds : List D} : dctD M (.lst ds) = none := id rfl
theorem dc_ptrL {p : Addr} {ds : List D} (h : M p = some (.lst ds)) : dctD M (.ptr p) = none := by simp [dctD, h]
theorem dc_ptrD {p : Addr} {n : Bool} {k : List (D × D)} (h : M p = some (.dct n k)) : dctD M (.ptr p) = some (n, k) := by simp [dctD, h]
@[simp] theorem dc_setL {p : Addr} {ds : List D} : dctD (M.set p (.lst ds)) (.ptr p) = none := dc_ptrL Mem.set_same
@[simp] theorem dc_setD {p : Addr} {n : Bool} {k : List (D × D)} : dctD (M.set p (.dct n k)) (.ptr p) = some (n, k) := dc_ptrD Mem.set_same
@[simp] theorem in_obj {C : Addr} {f : List (Str × D)} : insD M (.obj C f) = some (C, f) := id rfl
theorem in_ptr {p C : Addr} {f : List (Str × D)} (h : M p = some (.ins C f)) : insD M (.ptr p) = some (C, f) := by simp [insD, h]
@[simp] theorem sq_tup {ds : List D} : sqD M (.tup ds) = some ds := id rfl
@[simp] theorem sq_lst {ds : List D} : sqD M (.lst ds) = some ds := id rfl
theorem sq_ptr {p : Addr} {ds : List D} (h : M p = some (.lst ds)) : sqD M (.ptr p) = some ds := by simp [sqD, vw_ptr h]
@[simp] theorem sq_set {p : Addr} {ds : List D} : sqD (M.set p (.lst ds)) (.ptr p) = some ds := sq_ptr Mem.set_same

theorem atI_nat {α : Type} (xs : List α) (n : Nat) : L2.atI xs (n : Int) = xs[n]? := by
  unfold L2.atI L2.ixN
  rw [if_pos (by omega)]
  split
  · simp
  · next h => rw [Option.bind_none, List.getElem?_eq_none (by omega)]
@[simp] theorem atI_cast {α : Type} (xs : List α) (n : Nat) : L2.atI xs (n : Int) = xs[n]? := atI_nat xs n
@[simp] theorem atI_0 {α : Type} (xs : List α) : L2.atI xs 0 = xs[0]? := atI_nat xs 0
@[simp] theorem atI_1 {α : Type} (xs : List α) : L2.atI xs 1 = xs[1]? := atI_nat xs 1
@[simp] theorem atI_2 {α : Type} (xs : List α) : L2.atI xs 2 = xs[2]? := atI_nat xs 2
@[simp] theorem atI_3 {α : Type} (xs : List α) : L2.atI xs 3 = xs[3]? := atI_nat xs 3
theorem atI_pos {α : Type} (xs : List α) {i : Int} (h : 0 ≤ i) : L2.atI xs i = xs[i.toNat]? := by
  obtain ⟨n, rfl⟩ := Int.eq_ofNat_of_zero_le h
  simp [atI_nat]
@[simp] theorem ixA_tup {ds : List D} {i : Int} : rIxA (.tup ds) (.int i) M Q = match L2.atI ds i with | some d => Q d M | none => False := id rfl
@[simp] theorem ixA_lst {ds : List D} {i : Int} : rIxA (.lst ds) (.int i) M Q = match L2.atI ds i with | some d => Q d M | none => False := id rfl
theorem ixA_ptr {p : Addr} {ds : List D} {i : Int} (h : M p = some (.lst ds)) : rIxA (.ptr p) (.int i) M Q = match L2.atI ds i with | some d => Q d M | none => False := by
  have e1 : rIxA (.ptr p) (.int i) M Q = rIx (.ptr p) (.int i) M Q := by unfold rIxA; rw [dc_ptrL h]
  rw [e1]
  show (match vw M (.ptr p) with | some ds => (match L2.atI ds i with | some d => Q d M | none => False) | none => False) = _
  rw [vw_ptr h]
@[simp] theorem ixA_set {p : Addr} {ds : List D} {i : Int} : rIxA (.ptr p) (.int i) (M.set p (.lst ds)) Q = match L2.atI ds i with | some d => Q d (M.set p (.lst ds)) | none => False := ixA_ptr Mem.set_same
theorem sIx_c (n d k : Nat) : HT.sIx n d (some (k : Int)) = min k n := HT.sIx_nat n d k
theorem cut_to {α : Type} (xs : List α) (n : Nat) : cutD xs none (some (n : Int)) = xs.take n := by
  unfold cutD
  rw [sIx_c, HT.sIx_none, List.drop_zero, Nat.sub_zero]
  by_cases h : n ≤ xs.length
  · rw [Nat.min_eq_left h]
  · rw [Nat.min_eq_right (by omega), List.take_length, List.take_of_length_le (by omega)]
theorem cut_from {α : Type} (xs : List α) (n : Nat) : cutD xs (some (n : Int)) none = xs.drop n := by
  unfold cutD
  rw [sIx_c, HT.sIx_none]
  by_cases h : n ≤ xs.length
  · rw [Nat.min_eq_left h, List.take_of_length_le (by simp)]
  · rw [Nat.min_eq_right (by omega), List.drop_length, List.take_nil, List.drop_of_length_le (by omega)]
theorem cut_mid {α : Type} (xs : List α) (a b : Nat) : cutD xs (some (a : Int)) (some (b : Int)) = (xs.drop a).take (b - a) := by
  unfold cutD
  rw [sIx_c, sIx_c]
  by_cases h : a ≤ xs.length
  · rw [Nat.min_eq_left h]
    by_cases h2 : b ≤ xs.length
    · rw [Nat.min_eq_left h2]
    · rw [Nat.min_eq_right (Nat.le_of_not_le h2), List.take_of_length_le (by simp), List.take_of_length_le (by simp; omega)]
  · rw [Nat.min_eq_right (Nat.le_of_not_le h), List.drop_length, List.take_nil, List.drop_of_length_le (by omega), List.take_nil]
theorem cut_to' {α : Type} (xs : List α) {i : Int} (h : 0 ≤ i) : cutD xs none (some i) = xs.take i.toNat := by
  obtain ⟨n, rfl⟩ := Int.eq_ofNat_of_zero_le h
  exact cut_to xs n
theorem cut_from' {α : Type} (xs : List α) {i : Int} (h : 0 ≤ i) : cutD xs (some i) none = xs.drop i.toNat := by
  obtain ⟨n, rfl⟩ := Int.eq_ofNat_of_zero_le h
  exact cut_from xs n
theorem cut_mid' {α : Type} (xs : List α) {i j : Int} (h : 0 ≤ i) (h' : 0 ≤ j) : cutD xs (some i) (some j) = (xs.drop i.toNat).take (j.toNat - i.toNat) := by
  obtain ⟨n, rfl⟩ := Int.eq_ofNat_of_zero_le h
  obtain ⟨m, rfl⟩ := Int.eq_ofNat_of_zero_le h'
  exact cut_mid xs n m
theorem cut_map {α β : Type} (f : α → β) (xs : List α) (l u : Option Int) : cutD (xs.map f) l u = (cutD xs l u).map f := by
  unfold cutD; simp [List.map_take, List.map_drop]

/-! == -/
mutual
def D.lay : D → Bool
  | .non => true
  | .bl _ => true
  | .int _ => true
  | .str x => PyData.strOk x
  | .tup ds => D.lays ds
  | .lst ds => D.lays ds
  | .ptr _ => false
  | .ty _ => false
  | .dct _ _ => false
  | .obj _ _ => false
def D.lays : List D → Bool
  | [] => true
  | d :: ds => D.lay d && D.lays ds
end
mutual
def D.hg : D → Nat
  | .tup ds => D.hgs ds + 1
  | .lst ds => D.hgs ds + 1
  | _ => 0
def D.hgs : List D → Nat
  | [] => 0
  | d :: ds => max (D.hg d) (D.hgs ds)
end
mutual
theorem hg_py : ∀ d : D, d.py.depth = d.hg
  | .non => by simp [D.py, PyData.depth, D.hg]
  | .bl _ => by simp [D.py, PyData.depth, D.hg]
  | .int _ => by simp [D.py, PyData.depth, D.hg]
  | .str _ => by simp [D.py, PyData.depth, D.hg]
  | .tup ds => by simp [D.py, PyData.depth, D.hg, hgs_py ds]
  | .lst ds => by simp [D.py, PyData.depth, D.hg, hgs_py ds]
  | .ptr _ => by simp [D.py, PyData.depth, D.hg]
  | .ty _ => by simp [D.py, PyData.depth, D.hg]
  | .dct _ _ => by simp [D.py, PyData.depth, D.hg]
  | .obj _ _ => by simp [D.py, PyData.depth, D.hg]
theorem hgs_py : ∀ ds : List D, PyData.depthAll (D.pys ds) = D.hgs ds
  | [] => by simp [D.pys, PyData.depthAll, D.hgs]
  | d :: ds => by simp [D.pys, PyData.depthAll, D.hgs, hg_py d, hgs_py ds]
end
mutual
theorem lay_py : ∀ d : D, d.lay = (d.pl && d.py.canLay0)
  | .non => by simp [D.py, PyData.canLay0, D.lay, D.pl]
  | .bl _ => by simp [D.py, PyData.canLay0, D.lay, D.pl]
  | .int _ => by simp [D.py, PyData.canLay0, D.lay, D.pl]
  | .str _ => by simp [D.py, PyData.canLay0, D.lay, D.pl]
  | .tup ds => by simp [D.py, PyData.canLay0, D.lay, D.pl, lays_py ds]
  | .lst ds => by simp [D.py, PyData.canLay0, D.lay, D.pl, lays_py ds]
  | .ptr _ => by simp [D.lay, D.pl]
  | .ty _ => by simp [D.lay, D.pl]
  | .dct _ _ => by simp [D.lay, D.pl]
  | .obj _ _ => by simp [D.lay, D.pl]
theorem lays_py : ∀ ds : List D, D.lays ds = (D.pls ds && PyData.canLayAll0 (D.pys ds))
  | [] => by simp [D.pys, PyData.canLayAll0, D.lays, D.pls]
  | d :: ds => by
    simp only [D.pys, PyData.canLayAll0, D.lays, D.pls, lay_py d, lays_py ds]
    cases D.pl d <;> cases D.pls ds <;> cases d.py.canLay0 <;> simp
end
theorem cok_eq (d : D) : d.cok = (d.lay && decide (d.hg ≤ 64)) := by
  unfold D.cok SeqAt.shaped
  rw [lay_py, hg_py, Bool.and_assoc]
theorem lays_all {ds : List D} : D.lays ds = ds.all D.lay := by
  induction ds with
  | nil => rfl
  | cons d ds ih => simp [D.lays, ih]
theorem hgs_le {ds : List D} {n : Nat} (h : ∀ d ∈ ds, d.hg ≤ n) : D.hgs ds ≤ n := by
  induction ds with
  | nil => exact Nat.zero_le _
  | cons d ds ih => simp only [D.hgs]; exact Nat.max_le.mpr ⟨h d (by simp), ih fun e m => h e (by simp [m])⟩
theorem hg_mem {ds : List D} {d : D} (h : d ∈ ds) : d.hg ≤ D.hgs ds := by
  induction ds with
  | nil => cases h
  | cons e ds ih =>
    simp only [D.hgs]
    rcases List.mem_cons.mp h with rfl | h
    · exact Nat.le_max_left _ _
    · exact Nat.le_trans (ih h) (Nat.le_max_right _ _)
/-- data of height at most n that == may be asked of -/
def D.Ck (n : Nat) (d : D) : Prop := d.lay = true ∧ d.hg ≤ n
theorem Ck.cok {n : Nat} {d : D} (h : d.Ck n) (hn : n ≤ 64) : d.cok = true := by
  rw [cok_eq, h.1]; simp; have := h.2; omega
theorem Ck.mono {n m : Nat} {d : D} (h : d.Ck n) (hn : n ≤ m) : d.Ck m := ⟨h.1, Nat.le_trans h.2 hn⟩
theorem Ck.int {i : Int} {n : Nat} : (D.int i).Ck n := ⟨rfl, Nat.zero_le _⟩
theorem Ck.bl {b : Bool} {n : Nat} : (D.bl b).Ck n := ⟨rfl, Nat.zero_le _⟩
theorem Ck.non {n : Nat} : D.non.Ck n := ⟨rfl, Nat.zero_le _⟩
theorem Ck.tup {ds : List D} {n : Nat} (h : ∀ d ∈ ds, d.Ck n) : (D.tup ds).Ck (n + 1) :=
  ⟨by show D.lays ds = true; rw [lays_all, List.all_eq_true]; exact fun d m => (h d m).1, Nat.succ_le_succ (hgs_le fun d m => (h d m).2)⟩
theorem Ck.lst {ds : List D} {n : Nat} (h : ∀ d ∈ ds, d.Ck n) : (D.lst ds).Ck (n + 1) :=
  ⟨by show D.lays ds = true; rw [lays_all, List.all_eq_true]; exact fun d m => (h d m).1, Nat.succ_le_succ (hgs_le fun d m => (h d m).2)⟩
theorem Ck.ints {l : List Int} {n : Nat} : (D.tup (l.map D.int)).Ck (n + 1) := Ck.tup fun d m => by obtain ⟨i, _, rfl⟩ := List.mem_map.mp m; exact Ck.int
theorem Ck.cells {l : List Int} {n : Nat} : (D.lst (l.map D.int)).Ck (n + 1) := Ck.lst fun d m => by obtain ⟨i, _, rfl⟩ := List.mem_map.mp m; exact Ck.int
@[simp] theorem cok_int {i : Int} : (D.int i).cok = true := Ck.cok (n := 0) Ck.int (by decide)
@[simp] theorem cok_bl {i : Bool} : (D.bl i).cok = true := Ck.cok (n := 0) Ck.bl (by decide)
@[simp] theorem cok_non : D.non.cok = true := Ck.cok (n := 0) Ck.non (by decide)
@[simp] theorem cok_row {l : List Int} : (D.tup (l.map D.int)).cok = true := Ck.cok (n := 1) Ck.ints (by decide)
@[simp] theorem cok_cells {l : List Int} : (D.lst (l.map D.int)).cok = true := Ck.cok (n := 1) Ck.cells (by decide)
@[simp] theorem cok_nilT : (D.tup []).cok = true := Ck.cok (n := 1) (Ck.ints (l := [])) (by decide)
@[simp] theorem cok_nilL : (D.lst []).cok = true := Ck.cok (n := 1) (Ck.cells (l := [])) (by decide)
/-- == of lists of data -/
def eqbs : List D → List D → Bool
  | [], [] => true
  | x :: xs, y :: ys => x.eqb y && eqbs xs ys
  | _, _ => false
theorem eqbs_py : ∀ xs ys : List D, PyData.eqvAll (D.pys xs) (D.pys ys) = eqbs xs ys
  | [], [] => by simp [D.pys, PyData.eqvAll, eqbs]
  | [], y :: ys => by simp [D.pys, PyData.eqvAll, eqbs]
  | x :: xs, [] => by simp [D.pys, PyData.eqvAll, eqbs]
  | x :: xs, y :: ys => by simp [D.pys, PyData.eqvAll, eqbs, eqbs_py xs ys, D.eqb]
@[simp] theorem eqb_tup {xs ys : List D} : (D.tup xs).eqb (.tup ys) = eqbs xs ys := by simp [D.eqb, D.py, PyData.eqv, eqbs_py]
@[simp] theorem eqb_lst {xs ys : List D} : (D.lst xs).eqb (.lst ys) = eqbs xs ys := by simp [D.eqb, D.py, PyData.eqv, eqbs_py]
@[simp] theorem eqb_int {i j : Int} : (D.int i).eqb (.int j) = decide (i = j) := by simp [D.eqb, D.py, PyData.eqv]; rfl
@[simp] theorem eqb_bl {i j : Bool} : (D.bl i).eqb (.bl j) = (i == j) := by simp [D.eqb, D.py, PyData.eqv]
@[simp] theorem eqb_bi {i : Bool} {j : Int} : (D.bl i).eqb (.int j) = ((if i then 1 else 0) == j) := by simp [D.eqb, D.py, PyData.eqv]
@[simp] theorem eqb_ib {j : Bool} {i : Int} : (D.int i).eqb (.bl j) = (i == (if j then 1 else 0)) := by simp [D.eqb, D.py, PyData.eqv]
@[simp] theorem eqb_nn : D.non.eqb .non = true := by simp [D.eqb, D.py, PyData.eqv]
@[simp] theorem eqb_ni {j : Int} : D.non.eqb (.int j) = false := by simp [D.eqb, D.py, PyData.eqv]
@[simp] theorem eqb_in {j : Int} : (D.int j).eqb .non = false := by simp [D.eqb, D.py, PyData.eqv]
@[simp] theorem eqb_it {j : Int} {xs : List D} : (D.int j).eqb (.tup xs) = false := by simp [D.eqb, D.py, PyData.eqv]
@[simp] theorem eqb_ti {j : Int} {xs : List D} : (D.tup xs).eqb (.int j) = false := by simp [D.eqb, D.py, PyData.eqv]
@[simp] theorem eqb_st {j : Str} {xs : List D} : (D.str j).eqb (.tup xs) = false := by simp [D.eqb, D.py, PyData.eqv]
@[simp] theorem eqb_ts {j : Str} {xs : List D} : (D.tup xs).eqb (.str j) = false := by simp [D.eqb, D.py, PyData.eqv]
@[simp] theorem eqb_nt {xs : List D} : D.non.eqb (.tup xs) = false := by simp [D.eqb, D.py, PyData.eqv]
@[simp] theorem eqb_tn {xs : List D} : (D.tup xs).eqb .non = false := by simp [D.eqb, D.py, PyData.eqv]
@[simp] theorem eqb_ss {i j : Str} : (D.str i).eqb (.str j) = (i == j) := by simp [D.eqb, D.py, PyData.eqv]
@[simp] theorem eqb_si {j : Int} {i : Str} : (D.str i).eqb (.int j) = false := by simp [D.eqb, D.py, PyData.eqv]
@[simp] theorem eqb_is {j : Int} {i : Str} : (D.int j).eqb (.str i) = false := by simp [D.eqb, D.py, PyData.eqv]
@[simp] theorem eqb_sn {i : Str} : (D.str i).eqb .non = false := by simp [D.eqb, D.py, PyData.eqv]
@[simp] theorem eqb_ns {i : Str} : D.non.eqb (.str i) = false := by simp [D.eqb, D.py, PyData.eqv]
@[simp] theorem eqbs_nil : eqbs [] [] = true := id rfl
@[simp] theorem eqbs_cons {x y : D} {xs ys : List D} : eqbs (x :: xs) (y :: ys) = (x.eqb y && eqbs xs ys) := id rfl
@[simp] theorem eqbs_nc {y : D} {ys : List D} : eqbs [] (y :: ys) = false := id rfl
@[simp] theorem eqbs_cn {y : D} {ys : List D} : eqbs (y :: ys) [] = false := id rfl
/-- where items are told apart by ==, so are lists of them -/
theorem eqbs_map {α : Type} [DecidableEq α] {f : α → D} (h : ∀ a b : α, (f a).eqb (f b) = decide (a = b)) : ∀ xs ys : List α, eqbs (xs.map f) (ys.map f) = decide (xs = ys)
  | [], [] => rfl
  | [], y :: ys => rfl
  | x :: xs, [] => rfl
  | x :: xs, y :: ys => by simp [h, eqbs_map h xs ys]
@[simp] theorem eqbs_ints {a b : List Int} : eqbs (a.map D.int) (b.map D.int) = decide (a = b) := eqbs_map (fun _ _ => eqb_int) a b
@[simp] theorem eqbs_intsN {a : List Int} : eqbs (a.map D.int) [] = decide (a = []) := eqbs_ints (b := [])
@[simp] theorem eqbs_Nints {a : List Int} : eqbs [] (a.map D.int) = decide (a = []) := by
  have := eqbs_ints (a := []) (b := a)
  simp only [List.map_nil] at this
  rw [this]
  by_cases h : a = [] <;> simp [h, eq_comm]
@[simp] theorem eqD_simp {neg : Bool} {x y : D} : rEqD neg x y M Q = (((dv M x).cok = true ∧ (dv M y).cok = true) ∧ Q (.bl (if neg then !(dv M x).eqb (dv M y) else (dv M x).eqb (dv M y))) M) := id rfl
@[simp] theorem ltD_int {i j : Int} {gt : Bool} : rLtD gt (.int i) (.int j) M Q = Q (.bl (if gt then decide (j < i) else decide (i < j))) M := id rfl
@[simp] theorem leI_int {i j : Int} : rLeI (.int i) (.int j) M Q = Q (.bl (decide (i ≤ j))) M := id rfl
@[simp] theorem geI_int {i j : Int} : rGeI (.int i) (.int j) M Q = Q (.bl (decide (j ≤ i))) M := id rfl
@[simp] theorem add_int {i j : Int} : rAddD (.int i) (.int j) M Q = Q (.int (i + j)) M := id rfl
@[simp] theorem add_tup {xs ys : List D} : rAddD (.tup xs) (.tup ys) M Q = (xs.length + ys.length ≤ sizeLine ∧ Q (.tup (xs ++ ys)) M) := id rfl
@[simp] theorem add_lst {xs ys : List D} : rAddD (.lst xs) (.lst ys) M Q = (xs.length + ys.length ≤ sizeLine ∧ Q (.lst (xs ++ ys)) M) := id rfl
@[simp] theorem sub_int {i j : Int} : rSubD (.int i) (.int j) M Q = Q (.int (i - j)) M := id rfl
@[simp] theorem mod_int {i j : Int} : rModD (.int i) (.int j) M Q = (0 < j ∧ Q (.int (i % j)) M) := id rfl
@[simp] theorem fdv_int {i j : Int} : rFdvD (.int i) (.int j) M Q = (CDiv i j ∧ Q (.int (i / j)) M) := id rfl
@[simp] theorem mul_int {i j : Int} : rMulD (.int i) (.int j) M Q = (CMul i j ∧ Q (.int (i * j)) M) := id rfl
@[simp] theorem pow_int {i j : Int} : rPowD (.int i) (.int j) M Q = (CPow i j ∧ Q (.int (i ^ j.toNat)) M) := id rfl
@[simp] theorem isN_n : rIsN .non .non M Q = Q (.bl true) M := id rfl
@[simp] theorem isN_t {ds : List D} : rIsN (.tup ds) .non M Q = Q (.bl false) M := id rfl
@[simp] theorem isN_i {i : Int} : rIsN (.int i) .non M Q = Q (.bl false) M := id rfl
@[simp] theorem notN_n : rNotN .non .non M Q = Q (.bl false) M := id rfl
@[simp] theorem notN_t {ds : List D} : rNotN (.tup ds) .non M Q = Q (.bl true) M := id rfl
@[simp] theorem notN_i {i : Int} : rNotN (.int i) .non M Q = Q (.bl true) M := id rfl
@[simp] theorem len_tup {xs : List D} : rLen [.tup xs] M Q = Q (.int xs.length) M := id rfl
@[simp] theorem len_lst {xs : List D} : rLen [.lst xs] M Q = Q (.int xs.length) M := id rfl
theorem len_ptr {p : Addr} {xs : List D} (h : M p = some (.lst xs)) : rLen [.ptr p] M Q = Q (.int xs.length) M := by simp [rLen, vw_ptr h]
@[simp] theorem len_set {p : Addr} {xs : List D} : rLen [.ptr p] (M.set p (.lst xs)) Q = Q (.int xs.length) (M.set p (.lst xs)) := len_ptr Mem.set_same
@[simp] theorem mm_int {i j : Int} {mx : Bool} : rMM mx [.int i, .int j] M Q = Q (.int (if mx then (if j > i then j else i) else (if j < i then j else i))) M := id rfl
@[simp] theorem tuple_l {ds : List D} : rTuple [.lst ds] M Q = Q (.tup ds) M := id rfl
@[simp] theorem tuple_t {ds : List D} : rTuple [.tup ds] M Q = Q (.tup ds) M := id rfl
@[simp] theorem list_l {ds : List D} : rList [.lst ds] M Q = Q (.lst ds) M := id rfl
@[simp] theorem list_t {ds : List D} : rList [.tup ds] M Q = Q (.lst ds) M := id rfl
@[simp] theorem abs_int {i : Int} : rAbs [.int i] M Q = Q (.int (if i < 0 then -i else i)) M := id rfl
@[simp] theorem int_int {i : Int} : rInt1 [.int i] M Q = Q (.int i) M := id rfl
@[simp] theorem int_bl {b : Bool} : rInt1 [.bl b] M Q = Q (.int (if b then 1 else 0)) M := id rfl
theorem app_ptr {p : Addr} {xs : List D} {d : D} (h : M p = some (.lst xs)) : rApp (.ptr p) [d] M Q = (xs.length < sizeLine ∧ Q .non (M.set p (.lst (xs ++ [d])))) := by simp [rApp, h]
@[simp] theorem app_set {p : Addr} {xs : List D} {d : D} : rApp (.ptr p) [d] (M.set p (.lst xs)) Q = (xs.length < sizeLine ∧ Q .non (M.set p (.lst (xs ++ [d])))) := by rw [app_ptr Mem.set_same, Mem.set_set]
theorem e_varF {ρ : Env'} {Ex : QX} {i : Nat} {p : Addr} (h : ρ[i]? = some (some (.ptr p))) {ds : List D} (hm : M p = some (.lst ds)) : wVarF i ρ M Q Ex = Q (.lst ds) (M.del p) := by simp [wVarF, h, hm]
end
@[simp] theorem sl_0 : (0 ≤ sizeLine) = True := eq_true (by decide)
@[simp] theorem sl_1 : (1 ≤ sizeLine) = True := eq_true (by decide)
@[simp] theorem sl_2 : (2 ≤ sizeLine) = True := eq_true (by decide)
@[simp] theorem sl_3 : (3 ≤ sizeLine) = True := eq_true (by decide)
@[simp] theorem sl_4 : (4 ≤ sizeLine) = True := eq_true (by decide)
@[simp] theorem sl_5 : (5 ≤ sizeLine) = True := eq_true (by decide)
@[simp] theorem sl_6 : (6 ≤ sizeLine) = True := eq_true (by decide)
@[simp] theorem sl_7 : (7 ≤ sizeLine) = True := eq_true (by decide)
@[simp] theorem sl_8 : (8 ≤ sizeLine) = True := eq_true (by decide)
@[simp] theorem sll_0 : (0 < sizeLine) = True := eq_true (by decide)
@[simp] theorem sll_1 : (1 < sizeLine) = True := eq_true (by decide)
@[simp] theorem sll_2 : (2 < sizeLine) = True := eq_true (by decide)
@[simp] theorem sll_3 : (3 < sizeLine) = True := eq_true (by decide)
@[simp] theorem sll_4 : (4 < sizeLine) = True := eq_true (by decide)
@[simp] theorem sll_5 : (5 < sizeLine) = True := eq_true (by decide)
@[simp] theorem sll_6 : (6 < sizeLine) = True := eq_true (by decide)
@[simp] theorem sll_7 : (7 < sizeLine) = True := eq_true (by decide)
@[simp] theorem sll_8 : (8 < sizeLine) = True := eq_true (by decide)
end DL
namespace DL
open PySem PySem.Spec L2
/-! loops by what holds before each turn -/
section
variable {M : Mem} {g : Mem → Prop} {bind : DWG} {body wb : DWS} {k : DK} {wt test : DWT} {elt : DW} {p : Addr}
theorem forL_inv (I : List D → Env' → Mem → Prop) (hg : ∀ ds ρ M, I ds ρ M → g M) (h0 : ∀ ρ M, I [] ρ M → k.nx ρ M)
    (hs : ∀ d ds ρ M (K : Env' → Mem → Prop), I (d :: ds) ρ M → (∀ ρ' M', I ds ρ' M' → K ρ' M') → bind d ρ M (fun ρ' M' => body { k with nx := K, ct := K, bk := k.nx } ρ' M')) : ∀ (ds : List D) (ρ : Env') (M : Mem), I ds ρ M → forL g bind body k ds ρ M
  | [], ρ, M, h => ⟨hg _ _ _ h, h0 _ _ h⟩
  | d :: ds, ρ, M, h => ⟨hg _ _ _ h, hs d ds ρ M _ h fun ρ' M' h' => forL_inv I hg h0 hs ds ρ' M' h'⟩
theorem whN_inv (I : Nat → Env' → Mem → Prop)
    (hs : ∀ n ρ M (K : Env' → Mem → Prop), I n ρ M → (∀ m ρ' M', m < n → I m ρ' M' → K ρ' M') → wt ρ M (fun b M' => if b = true then wb { k with nx := K, ct := K, bk := k.nx } ρ M' else k.nx ρ M') k.ex) : ∀ (N n : Nat) (ρ : Env') (M : Mem), n < N → I n ρ M → whN wt wb k N ρ M
  | 0, n, _, _, h, _ => absurd h (Nat.not_lt_zero _)
  | N + 1, n, ρ, M, h, hi => hs n ρ M _ hi fun m ρ' M' hm hi' => whN_inv I hs N m ρ' M' (by omega) hi'
theorem whl_inv (I : Nat → Env' → Mem → Prop) {n : Nat} {ρ : Env'} {M : Mem} (h : I n ρ M)
    (hs : ∀ n ρ M (K : Env' → Mem → Prop), I n ρ M → (∀ m ρ' M', m < n → I m ρ' M' → K ρ' M') → wt ρ M (fun b M' => if b = true then wb { k with nx := K, ct := K, bk := k.nx } ρ M' else k.nx ρ M') k.ex) : ∃ n, whN wt wb k n ρ M :=
  ⟨n + 1, whN_inv I hs (n + 1) n ρ M (Nat.lt_succ_self n) h⟩
theorem compL_pure {α : Type} (e : α → D) {ρ : Env'} {Q : Mem → Prop} (f : α → Option D) (hg : ∀ acc, g (M.set p (.lst acc))) : ∀ (l : List α) (acc0 : List D),
    (∀ a ∈ l, ∀ acc (Qc : D → Mem → Prop) (Qn : Mem → Prop), (∀ y, f a = some y → Qc y (M.set p (.lst acc))) → (f a = none → Qn (M.set p (.lst acc))) → bind (e a) ρ (M.set p (.lst acc)) (fun ρ' M' => test ρ' M' (fun b M2 => if b = true then elt ρ' M2 Qc noX else Qn M2) noX)) →
    acc0.length + l.length ≤ sizeLine → Q (M.set p (.lst (acc0 ++ l.filterMap f))) → compL p g bind test elt ρ Q (l.map e) (M.set p (.lst acc0))
  | [], acc0, _, _, hQ => ⟨hg _, by simpa using hQ⟩
  | d :: ds, acc0, hs, hl, hQ => by
    refine ⟨hg _, hs d (by simp) acc0 _ _ (fun y e => ?_) fun e => ?_⟩
    · refine ⟨acc0, Mem.set_same, by simp at hl; omega, ?_⟩
      rw [Mem.set_set]
      exact compL_pure _ f hg ds _ (fun d m => hs d (by simp [m])) (by simp at hl ⊢; omega) (by simpa [e] using hQ)
    · exact compL_pure _ f hg ds _ (fun d m => hs d (by simp [m])) (by simp at hl ⊢; omega) (by simpa [e] using hQ)
def lcK (bind : DWG) (test : DWT) (elt : DW) (ρ : Env') (Q : QE) : List D → (Mem → Prop) → Mem → Prop := fun ds g M => ∀ p, M p = none → compL p g bind test elt ρ (fun M2 => ∃ xs, M2 p = some (.lst xs) ∧ Q (.lst xs) (M2.del p)) ds (M.set p (.lst []))
def lcKO (bind : DWG) (test : DWT) (elt : DW) (ρ : Env') (Q : QE) : List D → (Mem → Prop) → Mem → Prop := fun ds g M => ∀ p, M p = none → compL p g bind test elt ρ (fun M2 => Q (.ptr p) M2) ds (M.set p (.lst []))
/-- a comprehension whose items are made without a change -/
theorem lc_pure {α : Type} {l : List α} {e : α → D} {ρ : Env'} {Q : QE} (f : α → Option D) (hg : ∀ p acc, M p = none → g (M.set p (.lst acc)))
    (hs : ∀ p, M p = none → ∀ a ∈ l, ∀ acc (Qc : D → Mem → Prop) (Qn : Mem → Prop), (∀ y, f a = some y → Qc y (M.set p (.lst acc))) → (f a = none → Qn (M.set p (.lst acc))) → bind (e a) ρ (M.set p (.lst acc)) (fun ρ' M' => test ρ' M' (fun b M2 => if b = true then elt ρ' M2 Qc noX else Qn M2) noX))
    (hl : l.length ≤ sizeLine) (hQ : Q (.lst (l.filterMap f)) M) : lcK bind test elt ρ Q (l.map e) g M := fun p hp =>
  compL_pure e f (fun acc => hg p acc hp) l [] (hs p hp) (by simpa using hl) ⟨_, Mem.set_same, by rw [Mem.del_set hp]; simpa using hQ⟩
theorem lcO_pure {α : Type} {l : List α} {e : α → D} {ρ : Env'} {Q : QE} (f : α → Option D) (hg : ∀ p acc, M p = none → g (M.set p (.lst acc)))
    (hs : ∀ p, M p = none → ∀ a ∈ l, ∀ acc (Qc : D → Mem → Prop) (Qn : Mem → Prop), (∀ y, f a = some y → Qc y (M.set p (.lst acc))) → (f a = none → Qn (M.set p (.lst acc))) → bind (e a) ρ (M.set p (.lst acc)) (fun ρ' M' => test ρ' M' (fun b M2 => if b = true then elt ρ' M2 Qc noX else Qn M2) noX))
    (hl : l.length ≤ sizeLine) (hQ : ∀ p, M p = none → Q (.ptr p) (M.set p (.lst (l.filterMap f)))) : lcKO bind test elt ρ Q (l.map e) g M := fun p hp =>
  compL_pure e f (fun acc => hg p acc hp) l [] (hs p hp) (by simpa using hl) (by simpa using hQ p hp)
/-- .. and each gives one -/
theorem lc_map {α : Type} {l : List α} {e : α → D} {ρ : Env'} {Q : QE} (f : α → D) (hg : ∀ p acc, M p = none → g (M.set p (.lst acc)))
    (hs : ∀ p, M p = none → ∀ a ∈ l, ∀ acc (Qc : D → Mem → Prop), Qc (f a) (M.set p (.lst acc)) → bind (e a) ρ (M.set p (.lst acc)) (fun ρ' M' => elt ρ' M' Qc noX))
    (hl : l.length ≤ sizeLine) (hQ : Q (.lst (l.map f)) M) : lcK bind wYes elt ρ Q (l.map e) g M :=
  lc_pure (fun a => some (f a)) hg (fun p hp a m acc Qc Qn h1 _ => by simpa [wYes] using hs p hp a m acc Qc (h1 _ rfl)) hl (by simpa [List.filterMap_eq_map] using hQ)
theorem lcO_map {α : Type} {l : List α} {e : α → D} {ρ : Env'} {Q : QE} (f : α → D) (hg : ∀ p acc, M p = none → g (M.set p (.lst acc)))
    (hs : ∀ p, M p = none → ∀ a ∈ l, ∀ acc (Qc : D → Mem → Prop), Qc (f a) (M.set p (.lst acc)) → bind (e a) ρ (M.set p (.lst acc)) (fun ρ' M' => elt ρ' M' Qc noX))
    (hl : l.length ≤ sizeLine) (hQ : ∀ p, M p = none → Q (.ptr p) (M.set p (.lst (l.map f)))) : lcKO bind wYes elt ρ Q (l.map e) g M :=
  lcO_pure (fun a => some (f a)) hg (fun p hp a m acc Qc Qn h1 _ => by simpa [wYes] using hs p hp a m acc Qc (h1 _ rfl)) hl (by simpa [List.filterMap_eq_map] using hQ)
end
section
variable {ρ : Env'} {M : Mem} {Q : QE} {Ex : QX} {wi : DWI} {bind : DWG} {test : DWT} {elt w : DW} {vs : List Nat} {wa : DWA}
@[simp ↓] theorem e_lc : wLc wi bind test elt vs ρ M Q Ex = wi ρ M (lcK bind test elt (wipeD ρ vs) Q) Ex := id rfl
@[simp ↓] theorem e_lcO : wLcO wi bind test elt vs ρ M Q Ex = wi ρ M (lcKO bind test elt (wipeD ρ vs) Q) Ex := id rfl
@[simp] theorem e_wipe0 : wipeD ρ [] = ρ := id rfl
@[simp] theorem e_wipe1 {v : Nat} : wipeD ρ (v :: vs) = (wipeD ρ vs).set v none := id rfl
theorem intsD_zero {lo : Int} : intsD lo 0 = [] := rfl
theorem intsD_succ {lo : Int} {n : Nat} : intsD lo (n + 1) = .int lo :: intsD (lo + 1) n := by
  unfold intsD
  rw [List.range_succ_eq_map, List.map_cons, List.map_map]
  congr 1
  · simp
  · apply List.map_congr_left; intro i _; simp; omega
end
end DL
namespace DL
open PySem PySem.Spec L2
section
variable {G : Gx} {X : Cx} {W : WX} {e : Expr} {we : DW} {ρ : Env'} {M : Mem} {Q : QE} {Ex : QX}
/-- less is owned -/
def SubM (M' M : Mem) : Prop := ∀ a c, M' a = some c → M a = some c
/-- behind e owned things are forgotten -/
def wFgt (w : DW) : DW := fun ρ M Q Ex => w ρ M (fun d M' => ∃ M2, SubM M2 M' ∧ Q d M2) Ex
def kFgt (Q : QE) : QE := fun d M' => ∃ M2, SubM M2 M' ∧ Q d M2
@[simp ↓] theorem kFgt_ap {d : D} : kFgt Q d M = ∃ M2, SubM M2 M ∧ Q d M2 := id rfl
@[simp ↓] theorem e_fgt : wFgt we ρ M Q Ex = we ρ M (kFgt Q) Ex := id rfl
theorem de_fgt (h : DE G X W e we) : DE G X W e (wFgt we) := by
  obtain ⟨t, p, q⟩ := h.ex
  refine ⟨t, p, fun F σ H ρ M Q Ex Qv k l c h0 => q F σ H ρ M _ Ex _ k l (fun v H' d M' F' e k' r h1 => ?_) h0⟩
  obtain ⟨M2, hs, h1⟩ := h1
  exact c v H' d M2 F' e (k'.sub hs) r h1
theorem SubM.refl {M : Mem} : SubM M M := fun _ _ h => h
theorem SubM.set {M : Mem} {p : Addr} {c : Cell} (h : M p = none) : SubM M (M.set p c) := fun a c' e => by
  rw [Mem.set_ne (fun z => by rw [z, h] at e; cases e)]; exact e
theorem SubM.trans {M1 M2 M3 : Mem} (h : SubM M1 M2) (h' : SubM M2 M3) : SubM M1 M3 := fun a c e => h' a c (h a c e)
theorem Mem.set_comm {M : Mem} {a b : Addr} {c d : Cell} (h : a ≠ b) : (M.set a c).set b d = (M.set b d).set a c := by
  funext x
  by_cases h1 : x = b
  · subst h1; rw [Mem.set_same, Mem.set_ne (Ne.symm h), Mem.set_same]
  · rw [Mem.set_ne h1]
    by_cases h2 : x = a
    · subst h2; rw [Mem.set_same, Mem.set_same]
    · rw [Mem.set_ne h2, Mem.set_ne h2, Mem.set_ne h1]
end
end DL
namespace DL
open PySem PySem.Spec L2
def c_FIRST_STATE : D := .tup [.tup [], .tup [], .tup [], .bl false]
def W_Code_table (C_Code : Addr) : DWS :=
  sRet (wCB rList (wCons (wFld C_Code "pairs" (wVar 0)) (wNil)))
def W_Code_live (C_Code : Addr) : DWS :=
  sSeq (sSet 2 (wCB rTuple (wCons (wVar 1) (wNil)))) (sRet (wCB (rAA false) (wCons (wLc (wiK (wFld C_Code "readings" (wVar 0))) (gNm 3) (wYes) (wAndV (wBin (rLtD false) (wCB rLen (wCons (wVar 2) (wNil))) (wCB rLen (wCons (wVar 3) (wNil)))) ((wBin (rEqD false) (wSl (wVar 3) wNoP (wP (wCB rLen (wCons (wVar 2) (wNil))))) (wVar 2)))) [3]) (wNil))))
def W_Code_sign (C_Code : Addr) : DWS :=
  sRet (wGet1' (wFld C_Code "readings" (wVar 0)) (wVar 1))
def W_entry_at (C_Code : Addr) (s_Code_live s_Code_sign : DSp) : DWS :=
  sSeq (sFor (wiR2 (wCons (wC (.int 1)) (wCons (wBin rAddD (wCB rLen (wCons (wVar 1) (wNil))) (wC (.int 1))) (wNil)))) (gNm 2) (sSeq (sSet 3 (wMeth C_Code "sign" 2 s_Code_sign (wVar 0) (wCons (wSl (wVar 1) wNoP (wP (wVar 2))) (wNil)))) (sIf (wTB (wBin rNotN (wVar 3) (wC .non))) (sRet (wTup (wCons (wVar 3) (wCons (wVar 2) (wNil))))) (sNil)))) (sSeq (sIf (wTB (wMeth C_Code "live" 2 s_Code_live (wVar 0) (wCons (wCB rList (wCons (wVar 1) (wNil))) (wNil)))) (sRet (wC .non)) (sNil)) (sRet (wTup (wCons (wC .non) (wCons (wC (.int 1)) (wNil))))))
def W_settled (s_entry_at : DSp) : DWS :=
  sSeq (sWhile (wTB (wBin (rEqD true) (wVar 1) (wTup (wNil)))) (sSeq (sSet 3 (wCall 2 s_entry_at (wCons (wVar 0) (wCons (wVar 1) (wNil))))) (sSeq (sSet 4 (wCall 2 s_entry_at (wCons (wVar 0) (wCons (wVar 2) (wNil))))) (sSeq (sIf (wOr (wTB (wBin rIsN (wVar 3) (wC .non))) (wTB (wBin rIsN (wVar 4) (wC .non)))) (sRet (wTup (wCons (wVar 1) (wCons (wVar 2) (wNil))))) (sNil)) (sSeq (sIf (wTB (wBin (rEqD true) (wVar 3) (wVar 4))) (sRet (wC .non)) (sNil)) (sSeq (sSet 1 (wSl (wVar 1) (wP (wBin rIxA (wVar 3) (wC (.int 1)))) wNoP)) (sSet 2 (wSl (wVar 2) (wP (wBin rIxA (wVar 3) (wC (.int 1)))) wNoP)))))))) (sRet (wTup (wCons (wTup (wNil)) (wCons (wTup (wNil)) (wNil)))))
def W_grown (s_settled : DSp) : DWS :=
  sSeq (sAsg (gTp (gsCons (gNm 3) (gsCons (gNm 4) (gsCons (gNm 5) (gsCons (gNm 6) (gsNil)))))) (wVar 1)) (sSeq (sSet 7 (wCB (rMM false) (wCons (wCB rLen (wCons (wVar 3) (wNil))) (wCons (wCB rLen (wCons (wVar 2) (wNil))) (wNil))))) (sSeq (sSet 8 (wCall 3 s_settled (wCons (wVar 0) (wCons (wBin rAddD (wVar 4) (wSl (wVar 3) wNoP (wP (wVar 7)))) (wCons (wBin rAddD (wVar 5) (wSl (wVar 2) wNoP (wP (wVar 7)))) (wNil)))))) (sSeq (sIf (wTB (wBin rIsN (wVar 8) (wC .non))) (sRet (wC .non)) (sNil)) (sSeq (sIf (wTB (wBin (rLtD true) (wCB rLen (wCons (wVar 2) (wNil))) (wVar 7))) (sRet (wTup (wCons (wTup (wCons (wSl (wVar 2) (wP (wVar 7)) wNoP) (wCons (wBin rIxA (wVar 8) (wC (.int 1))) (wCons (wBin rIxA (wVar 8) (wC (.int 0))) (wCons (wVar 6) (wNil)))))) (wCons (wC (.bl true)) (wNil))))) (sNil)) (sSeq (sIf (wAnd (wTB (wBin (rEqD false) (wCB rLen (wCons (wVar 3) (wNil))) (wVar 7))) (wTB (wBin (rLtD true) (wBin rIxA (wVar 8) (wC (.int 0))) (wBin rIxA (wVar 8) (wC (.int 1)))))) (sRet (wTup (wCons (wTup (wCons (wTup (wNil)) (wCons (wBin rIxA (wVar 8) (wC (.int 1))) (wCons (wBin rIxA (wVar 8) (wC (.int 0))) (wCons (wVar 6) (wNil)))))) (wCons (wC (.bl true)) (wNil))))) (sNil)) (sRet (wTup (wCons (wTup (wCons (wSl (wVar 3) (wP (wVar 7)) wNoP) (wCons (wBin rIxA (wVar 8) (wC (.int 0))) (wCons (wBin rIxA (wVar 8) (wC (.int 1))) (wCons (wVar 6) (wNil)))))) (wCons (wC (.bl false)) (wNil))))))))))
def W_alike_steps (C_Code : Addr) (s_grown s_settled s_Code_table : DSp) : DWS :=
  sSeq (sSet 3 (wLstO (wNil))) (sSeq (sSet 4 (wMeth C_Code "table" 1 s_Code_table (wVar 0) wNil)) (sSeq (sFor (wiR1 (wCons (wCB rLen (wCons (wVar 4) (wNil))) (wNil))) (gNm 5) (sSeq (sAsg (gTp (gsCons (gNm 6) (gsCons (gNm 7) (gsNil)))) (wBin rIxA (wVar 4) (wVar 5))) (sSeq (sSet 8 (wCall 3 s_settled (wCons (wVar 1) (wCons (wBin rAddD (wBin rIxA (wVar 2) (wC (.int 1))) (wVar 7)) (wCons (wBin rAddD (wBin rIxA (wVar 2) (wC (.int 2))) (wVar 7)) (wNil)))))) (sSeq (sDrop (wBM rApp (wVar 3) (wCons (wTup (wCons (wTup (wCons (wTup (wNil)) (wCons (wBin rIxA (wVar 8) (wC (.int 0))) (wCons (wBin rIxA (wVar 8) (wC (.int 1))) (wCons (wC (.bl false)) (wNil)))))) (wCons (wLst (wCons (wVar 6) (wNil))) (wCons (wLst (wCons (wVar 6) (wNil))) (wCons (wC (.bl false)) (wNil)))))) (wNil)))) (sFor (wiL (wSl (wVar 4) (wP (wBin rAddD (wVar 5) (wC (.int 1)))) wNoP)) (gTp (gsCons (gNm 9) (gsCons (gNm 10) (gsNil)))) (sSeq (sSet 11 (wCall 3 s_grown (wCons (wVar 1) (wCons (wTup (wCons (wVar 7) (wCons (wBin rIxA (wVar 2) (wC (.int 1))) (wCons (wBin rIxA (wVar 2) (wC (.int 2))) (wCons (wC (.bl true)) (wNil)))))) (wCons (wVar 10) (wNil)))))) (sIf (wTB (wBin rNotN (wVar 11) (wC .non))) (sDrop (wBM rApp (wVar 3) (wCons (wTup (wCons (wBin rIxA (wVar 11) (wC (.int 0))) (wCons (wLst (wCons (wVar 6) (wNil))) (wCons (wLst (wCons (wVar 9) (wNil))) (wCons (wBin rIxA (wVar 11) (wC (.int 1))) (wNil)))))) (wNil)))) (sNil)))))))) (sRet (wVarF 3))))
def W_next_steps (C_Code : Addr) (s_Code_table s_grown s_alike_steps : DSp) : DWS :=
  sSeq (sAsg (gTp (gsCons (gNm 3) (gsCons (gNm 4) (gsCons (gNm 5) (gsCons (gNm 6) (gsNil)))))) (wVar 2)) (sSeq (sIf (wNot (wTB (wVar 6))) (sRet (wCall 3 s_alike_steps (wCons (wVar 0) (wCons (wVar 1) (wCons (wVar 2) (wNil)))))) (sNil)) (sSeq (sSet 7 (wLstO (wNil))) (sSeq (sFor (wiL (wMeth C_Code "table" 1 s_Code_table (wVar 0) wNil)) (gTp (gsCons (gNm 8) (gsCons (gNm 9) (gsNil)))) (sIf (wTB (wBin (rEqD false) (wVar 3) (wTup (wNil)))) (sSeq (sDrop (wBM rApp (wVar 7) (wCons (wTup (wCons (wTup (wCons (wVar 9) (wCons (wVar 4) (wCons (wVar 5) (wCons (wC (.bl true)) (wNil)))))) (wCons (wLst (wCons (wVar 8) (wNil))) (wCons (wLst (wNil)) (wCons (wC (.bl false)) (wNil)))))) (wNil)))) (sDrop (wBM rApp (wVar 7) (wCons (wTup (wCons (wTup (wCons (wVar 9) (wCons (wVar 5) (wCons (wVar 4) (wCons (wC (.bl true)) (wNil)))))) (wCons (wLst (wNil)) (wCons (wLst (wCons (wVar 8) (wNil))) (wCons (wC (.bl true)) (wNil)))))) (wNil))))) (sSeq (sSet 10 (wCall 3 s_grown (wCons (wVar 1) (wCons (wVar 2) (wCons (wVar 9) (wNil)))))) (sIf (wTB (wBin rNotN (wVar 10) (wC .non))) (sDrop (wBM rApp (wVar 7) (wCons (wTup (wCons (wBin rIxA (wVar 10) (wC (.int 0))) (wCons (wLst (wNil)) (wCons (wLst (wCons (wVar 8) (wNil))) (wCons (wBin rIxA (wVar 10) (wC (.int 1))) (wNil)))))) (wNil)))) (sNil))))) (sRet (wVarF 7)))))
def W_Code_longest (C_Code : Addr) : DWS :=
  sRet (wCBK rMaxDef (wCons (wLc (wiK (wFld C_Code "readings" (wVar 0))) (gNm 1) (wYes) (wCB rLen (wCons (wVar 1) (wNil))) [1]) (wNil)) (wCons (wC (.int 0)) (wNil)))
def W_sign_from (C_Code : Addr) (s_Code_longest s_Code_sign : DSp) : DWS :=
  sSeq (sFor (wiR2 (wCons (wC (.int 1)) (wCons (wBin rAddD (wCB (rMM false) (wCons (wMeth C_Code "longest" 1 s_Code_longest (wVar 0) wNil) (wCons (wBin rSubD (wCB rLen (wCons (wVar 1) (wNil))) (wVar 2)) (wNil)))) (wC (.int 1))) (wNil)))) (gNm 3) (sSeq (sSet 4 (wMeth C_Code "sign" 2 s_Code_sign (wVar 0) (wCons (wCB rTuple (wCons (wSl (wVar 1) (wP (wVar 2)) (wP (wBin rAddD (wVar 2) (wVar 3)))) (wNil))) (wNil)))) (sIf (wTB (wBin rNotN (wVar 4) (wC .non))) (sRet (wTup (wCons (wVar 4) (wCons (wBin rAddD (wVar 2) (wVar 3)) (wNil))))) (sNil)))) (sRet (wC .non))
def W_spilt (s_sign_from : DSp) : DWS :=
  sSeq (sSet 2 (wLstO (wNil))) (sSeq (sSet 3 (wC (.int 0))) (sSeq (sWhile (wTB (wBin (rLtD false) (wVar 3) (wCB rLen (wCons (wVar 1) (wNil))))) (sSeq (sSet 4 (wCall 3 s_sign_from (wCons (wVar 0) (wCons (wVar 1) (wCons (wVar 3) (wNil)))))) (sSeq (sIf (wTB (wBin rIsN (wVar 4) (wC .non))) (sSet 4 (wTup (wCons (wC .non) (wCons (wBin rAddD (wVar 3) (wC (.int 1))) (wNil))))) (sNil)) (sSeq (sDrop (wBM rApp (wVar 2) (wCons (wTup (wCons (wVar 3) (wCons (wBin rIxA (wVar 4) (wC (.int 0))) (wNil)))) (wNil)))) (sSet 3 (wBin rIxA (wVar 4) (wC (.int 1)))))))) (sRet (wVarF 2))))
def W_spill (s_spilt : DSp) : DWS :=
  sRet (wLc (wiL (wCall 2 s_spilt (wCons (wVar 0) (wCons (wVar 1) (wNil))))) (gTp (gsCons (gNm 2) (gsCons (gNm 3) (gsNil)))) (wYes) (wVar 3) [2, 3])
def W_is_end (s_spill : DSp) : DWS :=
  sSeq (sAsg (gTp (gsCons (gNm 2) (gsCons (gNm 3) (gsCons (gNm 4) (gsCons (gNm 5) (gsNil)))))) (wVar 1)) (sRet (wAndV (wVar 5) (wAndV (wBin (rEqD false) (wVar 2) (wTup (wNil))) ((wBin (rEqD false) (wCall 2 s_spill (wCons (wVar 0) (wCons (wCB rList (wCons (wVar 3) (wNil))) (wNil)))) (wCall 2 s_spill (wCons (wVar 0) (wCons (wCB rList (wCons (wVar 4) (wNil))) (wNil)))))))))
def W_shows_apart (s_next_steps s_is_end : DSp) : DWS :=
  sSeq (sSet 3 (wDict1 ((wC c_FIRST_STATE)) (wC (.bl true)))) (sSeq (sSet 4 (wLstO (wCons ((wC c_FIRST_STATE)) (wNil)))) (sSeq (sWhile (wTB (wBin (rEqD true) (wVar 4) (wLst (wNil)))) (sSeq (sSet 5 (wBM rPopD (wVar 4) wNil)) (sSeq (sIf (wOr (wTB (wBin (rIn true) (wVar 5) (wVar 2))) (wTB (wCall 2 s_is_end (wCons (wVar 1) (wCons (wVar 5) (wNil)))))) (sRet (wFgt (wC (.bl false)))) (sNil)) (sFor (wiL (wCall 3 s_next_steps (wCons (wVar 0) (wCons (wVar 1) (wCons (wVar 5) (wNil)))))) (gNm 6) (sIf (wTB (wBin (rIn true) (wBin rIxA (wVar 6) (wC (.int 0))) (wVar 3))) (sSeq (sPut (wVar 3) (wBin rIxA (wVar 6) (wC (.int 0))) (wC (.bl true))) (sDrop (wBM rApp (wVar 4) (wCons (wBin rIxA (wVar 6) (wC (.int 0))) (wNil))))) (sNil)))))) (sRet (wFgt (wC (.bl true))))))
def W__law_tells (s_shows_apart : DSp) : DWS :=
  sSeq (sSet 4 (wCB rList (wCons (wVar 2) (wNil)))) (sSeq (sSet 5 (wCall 3 s_shows_apart (wCons (wVar 0) (wCons (wVar 1) (wCons (wVar 4) (wNil)))))) (sRet (wAndV (wCB rIsi (wCons (wVar 5) (wCons (wC (.ty "bool")) (wNil)))) (wAndV (wBin (rEqD false) (wVar 5) (wVar 3)) ((wBin (rEqD false) (wVar 4) (wVar 2)))))))
def W__law_draw : DWS :=
  sSeq (sIf (wTB (wBin (rLtD true) (wBin rIxA (wVar 0) (wC (.int 0))) (wC (.int 0)))) (sSeq (sSet 2 (wBin rModD (wBin rIxA (wVar 0) (wC (.int 0))) (wVar 1))) (sSeq (sPut (wVar 0) (wC (.int 0)) (wBin rFdvD (wBin rIxA (wVar 0) (wC (.int 0))) (wVar 1))) (sRet (wVar 2)))) (sNil)) (sSeq (sAugI (wVar 0) (wC (.int 1)) (wC (.int 1))) (sSeq (sSet 3 (wBin rModD (wBin rIxA (wBin rIxA (wVar 0) (wC (.int 2))) (wBin rModD (wBin rIxA (wVar 0) (wC (.int 1))) (wCB rLen (wCons (wBin rIxA (wVar 0) (wC (.int 2))) (wNil))))) (wC (.int 2147483647)))) (sSeq (sSet 4 (wBin rModD (wBin rAddD (wBin rAddD (wBin rMulD (wVar 3) (wC (.int 48271))) (wBin rMulD (wBin rIxA (wVar 0) (wC (.int 1))) (wC (.int 7368787)))) (wC (.int 11))) (wC (.int 998244353)))) (sSeq (sSet 4 (wBin rModD (wBin rAddD (wBin rMulD (wVar 4) (wVar 4)) (wBin rIxA (wVar 0) (wC (.int 1)))) (wC (.int 998244353)))) (sSeq (sSet 4 (wBin rModD (wBin rAddD (wBin rMulD (wVar 4) (wC (.int 40503203))) (wC (.int 12345))) (wC (.int 2147483647)))) (sRet (wBin rModD (wBin rFdvD (wBin rModD (wBin rMulD (wVar 4) (wVar 4)) (wC (.int 1000000007))) (wC (.int 64))) (wVar 1))))))))
def W__law_word_at : DWS :=
  sSeq (sFor (wiL (wVar 0)) (gTp (gsCons (gNm 3) (gsCons (gNm 4) (gsNil)))) (sIf (wTB (wBin (rEqD false) (wCB rTuple (wCons (wSl (wVar 1) (wP (wVar 2)) (wP (wBin rAddD (wVar 2) (wCB rLen (wCons (wVar 4) (wNil)))))) (wNil))) (wVar 4))) (sRet (wTup (wCons (wVar 3) (wCons (wCB rLen (wCons (wVar 4) (wNil))) (wNil))))) (sNil))) (sRet (wTup (wCons (wC .non) (wCons (wC (.int 1)) (wNil)))))
def W__law_entries (s__law_word_at : DSp) : DWS :=
  sSeq (sSet 2 (wLstO (wNil))) (sSeq (sSet 3 (wC (.int 0))) (sSeq (sWhile (wTB (wBin (rLtD false) (wVar 3) (wCB rLen (wCons (wVar 1) (wNil))))) (sSeq (sAsg (gTp (gsCons (gNm 4) (gsCons (gNm 5) (gsNil)))) (wCall 3 s__law_word_at (wCons (wVar 0) (wCons (wVar 1) (wCons (wVar 3) (wNil)))))) (sSeq (sDrop (wBM rApp (wVar 2) (wCons (wVar 4) (wNil)))) (sSet 3 (wBin rAddD (wVar 3) (wVar 5)))))) (sRet (wVarF 2))))
def W__law_end (s__law_entries : DSp) : DWS :=
  sSeq (sAsg (gTp (gsCons (gNm 2) (gsCons (gNm 3) (gsCons (gNm 4) (gsCons (gNm 5) (gsNil)))))) (wVar 1)) (sRet (wAndV (wVar 5) (wAndV (wBin (rEqD false) (wVar 2) (wTup (wNil))) ((wBin (rEqD false) (wCall 2 s__law_entries (wCons (wVar 0) (wCons (wCB rList (wCons (wVar 3) (wNil))) (wNil)))) (wCall 2 s__law_entries (wCons (wVar 0) (wCons (wCB rList (wCons (wVar 4) (wNil))) (wNil)))))))))
def W__law_begins : DWS :=
  sSeq (sFor (wiL (wVar 0)) (gTp (gsCons (gNm 2) (gsCons (gNm 3) (gsNil)))) (sSeq (sIf (wTB (wBin (rEqD false) (wSl (wVar 1) wNoP (wP (wCB rLen (wCons (wVar 3) (wNil))))) (wVar 3))) (sRet (wTup (wCons (wVar 2) (wCons (wCB rLen (wCons (wVar 3) (wNil))) (wNil))))) (sNil)) (sIf (wTB (wBin (rEqD false) (wVar 1) (wSl (wVar 3) wNoP (wP (wCB rLen (wCons (wVar 1) (wNil))))))) (sRet (wC .non)) (sNil)))) (sRet (wTup (wCons (wC .non) (wCons (wC (.int 1)) (wNil)))))
def W__law_settled (s__law_begins : DSp) : DWS :=
  sSeq (sWhile (wTB (wBin (rEqD true) (wVar 1) (wTup (wNil)))) (sSeq (sSet 3 (wCall 2 s__law_begins (wCons (wVar 0) (wCons (wVar 1) (wNil))))) (sSeq (sSet 4 (wCall 2 s__law_begins (wCons (wVar 0) (wCons (wVar 2) (wNil))))) (sSeq (sIf (wOr (wTB (wBin rIsN (wVar 3) (wC .non))) (wTB (wBin rIsN (wVar 4) (wC .non)))) (sRet (wTup (wCons (wVar 1) (wCons (wVar 2) (wNil))))) (sNil)) (sSeq (sIf (wTB (wBin (rEqD true) (wVar 3) (wVar 4))) (sRet (wC .non)) (sNil)) (sSeq (sSet 1 (wSl (wVar 1) (wP (wBin rIxA (wVar 3) (wC (.int 1)))) wNoP)) (sSet 2 (wSl (wVar 2) (wP (wBin rIxA (wVar 3) (wC (.int 1)))) wNoP)))))))) (sRet (wTup (wCons (wTup (wNil)) (wCons (wTup (wNil)) (wNil)))))
def W__law_beside (s__law_settled : DSp) : DWS :=
  sSeq (sSet 4 (wCB (rMM false) (wCons (wCB rLen (wCons (wBin rIxA (wVar 1) (wC (.int 0))) (wNil))) (wCons (wCB rLen (wCons (wBin rIxA (wVar 2) (wC (.int 0))) (wNil))) (wNil))))) (sSeq (sSet 5 (wCall 3 s__law_settled (wCons (wVar 0) (wCons (wBin rAddD (wBin rIxA (wVar 1) (wC (.int 1))) (wSl (wBin rIxA (wVar 1) (wC (.int 0))) wNoP (wP (wVar 4)))) (wCons (wBin rAddD (wBin rIxA (wVar 2) (wC (.int 1))) (wSl (wBin rIxA (wVar 2) (wC (.int 0))) wNoP (wP (wVar 4)))) (wNil)))))) (sSeq (sIf (wTB (wBin rIsN (wVar 5) (wC .non))) (sRet (wC .non)) (sNil)) (sSeq (sIf (wTB (wBin (rLtD true) (wCB rLen (wCons (wBin rIxA (wVar 1) (wC (.int 0))) (wNil))) (wVar 4))) (sRet (wTup (wCons (wSl (wBin rIxA (wVar 1) (wC (.int 0))) (wP (wVar 4)) wNoP) (wCons (wBin rIxA (wVar 5) (wC (.int 0))) (wCons (wBin rIxA (wVar 5) (wC (.int 1))) (wCons (wVar 3) (wNil))))))) (sNil)) (sSeq (sIf (wTB (wBin (rLtD true) (wCB rLen (wCons (wBin rIxA (wVar 2) (wC (.int 0))) (wNil))) (wVar 4))) (sRet (wTup (wCons (wSl (wBin rIxA (wVar 2) (wC (.int 0))) (wP (wVar 4)) wNoP) (wCons (wBin rIxA (wVar 5) (wC (.int 1))) (wCons (wBin rIxA (wVar 5) (wC (.int 0))) (wCons (wVar 3) (wNil))))))) (sNil)) (sRet (wTup (wCons (wTup (wNil)) (wCons (wCB (rMM false) (wCons (wVar 5) (wNil))) (wCons (wCB (rMM true) (wCons (wVar 5) (wNil))) (wCons (wVar 3) (wNil)))))))))))
def W__law_next (s__law_beside : DSp) : DWS :=
  sSeq (sAsg (gTp (gsCons (gNm 3) (gsCons (gNm 4) (gsCons (gNm 5) (gsCons (gNm 6) (gsNil)))))) (wVar 2)) (sSeq (sSet 7 (wLstO (wNil))) (sSeq (sFor (wiL (wVar 0)) (gTp (gsCons (gNm 8) (gsCons (gNm 9) (gsNil)))) (sIf (wNot (wTB (wVar 6))) (sFor (wiL (wVar 0)) (gTp (gsCons (gNm 10) (gsCons (gNm 11) (gsNil)))) (sDrop (wBM rApp (wVar 7) (wCons (wCall 4 s__law_beside (wCons (wVar 1) (wCons (wTup (wCons (wVar 9) (wCons (wVar 4) (wNil)))) (wCons (wTup (wCons (wVar 11) (wCons (wVar 4) (wNil)))) (wCons (wBin (rEqD true) (wVar 10) (wVar 8)) (wNil)))))) (wNil))))) (sIf (wTB (wBin (rEqD false) (wVar 3) (wTup (wNil)))) (sSeq (sDrop (wBM rApp (wVar 7) (wCons (wTup (wCons (wVar 9) (wCons (wVar 4) (wCons (wVar 5) (wCons (wC (.bl true)) (wNil)))))) (wNil)))) (sDrop (wBM rApp (wVar 7) (wCons (wTup (wCons (wVar 9) (wCons (wVar 5) (wCons (wVar 4) (wCons (wC (.bl true)) (wNil)))))) (wNil))))) (sDrop (wBM rApp (wVar 7) (wCons (wCall 4 s__law_beside (wCons (wVar 1) (wCons (wTup (wCons (wVar 3) (wCons (wVar 4) (wNil)))) (wCons (wTup (wCons (wVar 9) (wCons (wVar 5) (wNil)))) (wCons (wC (.bl true)) (wNil)))))) (wNil))))))) (sRet (wFgt (wLc (wiL (wVar 7)) (gNm 12) (wTB (wBin rNotN (wVar 12) (wC .non))) (wVar 12) [12])))))
def W__law_reached (s__law_next : DSp) : DWS :=
  sSeq (sSet 2 (wLstO (wCons (wTup (wCons (wTup (wNil)) (wCons (wTup (wNil)) (wCons (wTup (wNil)) (wCons (wC (.bl false)) (wNil)))))) (wNil)))) (sSeq (sSet 3 (wDict1 (wBin rIxA (wVar 2) (wC (.int 0))) (wC (.bl true)))) (sSeq (sSet 4 (wC (.int 0))) (sSeq (sWhile (wTB (wBin (rLtD false) (wVar 4) (wCB rLen (wCons (wVar 2) (wNil))))) (sSeq (sFor (wiL (wCall 3 s__law_next (wCons (wVar 0) (wCons (wVar 1) (wCons (wBin rIxA (wVar 2) (wVar 4)) (wNil)))))) (gNm 5) (sIf (wTB (wBin (rIn true) (wVar 5) (wVar 3))) (sSeq (sPut (wVar 3) (wVar 5) (wC (.bl true))) (sDrop (wBM rApp (wVar 2) (wCons (wVar 5) (wNil))))) (sNil))) (sSet 4 (wBin rAddD (wVar 4) (wC (.int 1)))))) (sRet (wFgt (wCB rSorted (wCons (wVar 2) (wNil))))))))
def W_at_odds : DWS :=
  sSeq (sIf (wTB (wBin (rEqD false) (wBin rIxA (wVar 0) (wC (.int 0))) (wBin rIxA (wVar 1) (wC (.int 0))))) (sRet (wC (.str "twice"))) (sNil)) (sSeq (sSet 2 (wCB (rMM false) (wCons (wCB rLen (wCons (wBin rIxA (wVar 0) (wC (.int 1))) (wNil))) (wCons (wCB rLen (wCons (wBin rIxA (wVar 1) (wC (.int 1))) (wNil))) (wNil))))) (sSeq (sIf (wTB (wBin (rEqD false) (wSl (wBin rIxA (wVar 0) (wC (.int 1))) wNoP (wP (wVar 2))) (wSl (wBin rIxA (wVar 1) (wC (.int 1))) wNoP (wP (wVar 2))))) (sRet (wC (.str "begins"))) (sNil)) (sRet (wC .non))))
def W_fault (s_at_odds : DSp) : DWS :=
  sSeq (sFor (wiR1 (wCons (wCB rLen (wCons (wVar 0) (wNil))) (wNil))) (gNm 1) (sFor (wiR1 (wCons (wVar 1) (wNil))) (gNm 2) (sSeq (sSet 3 (wCall 2 s_at_odds (wCons (wBin rIxA (wVar 0) (wVar 2)) (wCons (wBin rIxA (wVar 0) (wVar 1)) (wNil))))) (sIf (wTB (wBin rNotN (wVar 3) (wC .non))) (sRet (wTup (wCons (wVar 3) (wCons (wVar 2) (wCons (wVar 1) (wNil)))))) (sNil))))) (sRet (wC .non))
def W_Code_init (C_Code f_by_word : Addr) (s_fault : DSp) : DWS :=
  sSeq (sSet 2 (wCall 1 s_fault (wCons (wVar 1) (wNil)))) (sSeq (sIf (wAnd (wTB (wBin rNotN (wVar 2) (wC .non))) (wTB (wBin (rEqD false) (wBin rIxA (wVar 2) (wC (.int 0))) (wC (.str "twice"))))) (sNever) (sNil)) (sSeq (sIf (wTB (wBin rNotN (wVar 2) (wC .non))) (sNever) (sNil)) (sSeq (sFldD C_Code "pairs" (wVar 0) (wCBK (rSortBy f_by_word 1) (wCons (wVar 1) (wNil)) (wCons (wC (.ptr f_by_word)) (wNil)))) (sSeq (sFldD C_Code "words" (wVar 0) (wDict0 false)) (sSeq (sFldD C_Code "readings" (wVar 0) (wDict0 true)) (sSeq (sFor (wiL (wFld C_Code "pairs" (wVar 0))) (gTp (gsCons (gNm 3) (gsCons (gNm 4) (gsNil)))) (sSeq (sPut (wFld C_Code "words" (wVar 0)) (wVar 3) (wVar 4)) (sPut (wFld C_Code "readings" (wVar 0)) (wVar 4) (wVar 3)))) (sLockF 0 "readings" (sLockF 0 "words" (sNil)))))))))
def W__law_table (s__law_draw : DSp) : DWS :=
  sSeq (sSet 3 (wBin rModD (wCall 2 s__law_draw (wCons (wVar 0) (wCons (wC (.int 60)) (wNil)))) (wCB (rMM true) (wCons (wC (.int 1)) (wCons (wCB rLen (wCons (wVar 2) (wNil))) (wNil)))))) (sSeq (sSet 4 (wBin rAddD (wSl (wVar 2) (wP (wVar 3)) wNoP) (wSl (wVar 2) wNoP (wP (wVar 3))))) (sSeq (sSet 5 (wLc (wiR1 (wCons (wCB rLen (wCons (wVar 1) (wNil))) (wNil))) (gNm 6) (wYes) (wTup (wCons (wBin rIxA (wVar 4) (wVar 6)) (wCons (wBin rIxA (wVar 1) (wVar 6)) (wNil)))) [6])) (sSeq (sIf (wTB (wBin (rEqD false) (wCall 2 s__law_draw (wCons (wVar 0) (wCons (wC (.int 2)) (wNil)))) (wC (.int 0)))) (sRet (wRev (wVar 5))) (sNil)) (sRet (wVar 5)))))
def W__law_signs (s__law_draw : DSp) : DWS :=
  sSeq (sSet 2 (wBin rMulD (wCB rInt1 (wCons (wBin (rLtD true) (wCall 2 s__law_draw (wCons (wVar 0) (wCons (wC (.int 4)) (wNil)))) (wC (.int 0))) (wNil))) (wBin rAddD (wBin rMulD (wCall 2 s__law_draw (wCons (wVar 0) (wCons (wC (.int 500)) (wNil)))) (wBin rPowD (wC (.int 10)) (wC (.int 6)))) (wCall 2 s__law_draw (wCons (wVar 0) (wCons (wC (.int 1000000)) (wNil))))))) (sSeq (sSet 3 (wBin rAddD (wC (.int 1)) (wBin rIxA (wLst (wCons (wC (.int 0)) (wCons (wCall 2 s__law_draw (wCons (wVar 0) (wCons (wC (.int 40)) (wNil)))) (wCons (wCall 2 s__law_draw (wCons (wVar 0) (wCons (wBin rPowD (wC (.int 10)) (wC (.int 7))) (wNil)))) (wNil))))) (wCall 2 s__law_draw (wCons (wVar 0) (wCons (wC (.int 3)) (wNil))))))) (sSeq (sSet 4 (wLc (wiR1 (wCons (wVar 1) (wNil))) (gNm 6) (wYes) (wBin rAddD (wVar 2) (wBin rMulD (wVar 3) (wVar 6))) [6])) (sSeq (sSet 5 (wBin rModD (wCall 2 s__law_draw (wCons (wVar 0) (wCons (wC (.int 60)) (wNil)))) (wCB (rMM true) (wCons (wC (.int 1)) (wCons (wVar 1) (wNil)))))) (sSeq (sSet 4 (wBin rAddD (wSl (wVar 4) (wP (wVar 5)) wNoP) (wSl (wVar 4) wNoP (wP (wVar 5))))) (sSeq (sIf (wTB (wBin (rEqD false) (wCall 2 s__law_draw (wCons (wVar 0) (wCons (wC (.int 2)) (wNil)))) (wC (.int 0)))) (sRet (wRev (wVar 4))) (sNil)) (sRet (wVar 4)))))))
def W__law_words (s__law_draw : DSp) : DWS :=
  sSeq (sSet 4 (wLc (wiL (wVar 1)) (gNm 7) (wYes) (wTup (wCons (wVar 7) (wNil))) [7])) (sSeq (sFor (wiR1 (wCons (wCall 2 s__law_draw (wCons (wVar 0) (wCons (wBin rAddD (wVar 2) (wC (.int 1))) (wNil)))) (wNil))) (gNm 5) (sSeq (sSet 6 (wBin rModD (wCall 2 s__law_draw (wCons (wVar 0) (wCons (wC (.int 60)) (wNil)))) (wCB rLen (wCons (wVar 4) (wNil))))) (sIf (wTB (wBin (rLtD false) (wCB rLen (wCons (wBin rIxA (wVar 4) (wVar 6)) (wNil))) (wVar 3))) (sSet 4 (wBin rAddD (wBin rAddD (wSl (wVar 4) wNoP (wP (wVar 6))) (wLc (wiL (wVar 1)) (gNm 7) (wYes) (wBin rAddD (wBin rIxA (wVar 4) (wVar 6)) (wTup (wCons (wVar 7) (wNil)))) [7])) (wSl (wVar 4) (wP (wBin rAddD (wVar 6) (wC (.int 1)))) wNoP))) (sNil)))) (sRet (wLc (wiL (wVar 4)) (gNm 8) (wTB (wBin (rLtD true) (wCall 2 s__law_draw (wCons (wVar 0) (wCons (wC (.int 5)) (wNil)))) (wC (.int 0)))) (wVar 8) [8])))
def W__law_bytes (s__law_draw : DSp) : DWS :=
  sSeq (sSet 2 (wCall 2 s__law_draw (wCons (wVar 0) (wCons (wC (.int 256)) (wNil))))) (sSeq (sSet 3 (wBin rAddD (wC (.int 1)) (wCall 2 s__law_draw (wCons (wVar 0) (wCons (wC (.int 60)) (wNil)))))) (sRet (wLc (wiR1 (wCons (wBin rAddD (wC (.int 2)) (wCall 2 s__law_draw (wCons (wVar 0) (wCons (wBin rSubD (wVar 1) (wC (.int 1))) (wNil))))) (wNil))) (gNm 4) (wYes) (wBin rModD (wBin rAddD (wVar 2) (wBin rMulD (wVar 3) (wVar 4))) (wC (.int 256))) [4])))
def W__law_two (s__law_table s__law_signs s__law_draw s__law_words s__law_bytes : DSp) : DWS :=
  sSeq (sSet 1 (wCall 2 s__law_bytes (wCons (wVar 0) (wCons (wBin rIxA (wLst (wCons (wC (.int 3)) (wCons (wC (.int 8)) (wNil)))) (wCB rInt1 (wCons (wBin (rEqD false) (wCall 2 s__law_draw (wCons (wVar 0) (wCons (wC (.int 8)) (wNil)))) (wC (.int 0))) (wNil)))) (wNil))))) (sSeq (sSet 2 (wBin rAddD (wCB (rMM true) (wCons (wC (.int 1)) (wCons (wBin rSubD (wC (.int 5)) (wCB rLen (wCons (wVar 1) (wNil)))) (wNil)))) (wCB rInt1 (wCons (wAndV (wBin (rEqD false) (wCB rLen (wCons (wVar 1) (wNil))) (wC (.int 2))) ((wBin (rEqD false) (wCall 2 s__law_draw (wCons (wVar 0) (wCons (wC (.int 8)) (wNil)))) (wC (.int 0))))) (wNil))))) (sSeq (sSet 3 (wSl (wCall 4 s__law_words (wCons (wVar 0) (wCons (wVar 1) (wCons (wC (.int 2)) (wCons (wVar 2) (wNil)))))) wNoP (wP (wBin rIxA (wLst (wCons (wC (.int 4)) (wCons (wC (.int 6)) (wNil)))) (wCB rInt1 (wCons (wBin (rLtD true) (wCB rLen (wCons (wVar 1) (wNil))) (wC (.int 3))) (wNil))))))) (sSeq (sSet 4 (wSl (wCall 4 s__law_words (wCons (wVar 0) (wCons (wVar 1) (wCons (wC (.int 2)) (wCons (wVar 2) (wNil)))))) wNoP (wP (wC (.int 7))))) (sSeq (sSet 5 (wCall 2 s__law_draw (wCons (wVar 0) (wCons (wC (.int 5)) (wNil))))) (sSeq (sIf (wAnd (wTB (wBin (rEqD true) (wVar 3) (wLst (wNil)))) (wTB (wBin (rLtD true) (wVar 5) (wC (.int 0))))) (sSeq (sSet 6 (wBin rModD (wCall 2 s__law_draw (wCons (wVar 0) (wCons (wC (.int 60)) (wNil)))) (wCB rLen (wCons (wVar 3) (wNil))))) (sSeq (sSet 4 (wBin rAddD (wSl (wVar 3) wNoP (wP (wVar 6))) (wSl (wVar 3) (wP (wBin rAddD (wVar 6) (wC (.int 1)))) wNoP))) (sSeq (sIf (wAnd (wTB (wBin (rEqD false) (wVar 5) (wC (.int 2)))) (wTB (wBin (rLtD false) (wCB rLen (wCons (wBin rIxA (wVar 3) (wVar 6)) (wNil))) (wC (.int 4))))) (sSet 4 (wBin rAddD (wVar 4) (wLc (wiL (wSl (wVar 1) wNoP (wP (wC (.int 3))))) (gNm 9) (wYes) (wBin rAddD (wBin rIxA (wVar 3) (wVar 6)) (wTup (wCons (wVar 9) (wNil)))) [9]))) (sNil)) (sIf (wAnd (wTB (wBin (rEqD false) (wVar 5) (wC (.int 3)))) (wTB (wBin (rLtD false) (wCB rLen (wCons (wBin rIxA (wVar 3) (wVar 6)) (wNil))) (wC (.int 4))))) (sSet 4 (wBin rAddD (wVar 4) (wLst (wCons (wBin rAddD (wBin rIxA (wVar 3) (wVar 6)) (wTup (wCons (wBin rIxA (wVar 1) (wC (.int 0))) (wNil)))) (wNil))))) (sNil))))) (sNil)) (sSeq (sIf (wAnd (wTB (wBin (rLtD false) (wCB rLen (wCons (wVar 4) (wNil))) (wBin rIxA (wLst (wCons (wC (.int 7)) (wCons (wC (.int 9)) (wNil)))) (wCB rInt1 (wCons (wBin (rLtD true) (wCB rLen (wCons (wVar 1) (wNil))) (wC (.int 3))) (wNil)))))) (wTB (wBin (rEqD false) (wCall 2 s__law_draw (wCons (wVar 0) (wCons (wC (.int 4)) (wNil)))) (wC (.int 0))))) (sAsg (gTp (gsCons (gNm 3) (gsCons (gNm 4) (gsNil)))) (wTup (wCons (wVar 4) (wCons (wVar 3) (wNil))))) (sNil)) (sSeq (sSet 7 (wCall 2 s__law_signs (wCons (wVar 0) (wCons (wC (.int 10)) (wNil))))) (sSeq (sSet 8 (wCall 3 s__law_table (wCons (wVar 0) (wCons (wVar 3) (wCons (wVar 7) (wNil)))))) (sSeq (sIf (wTB (wBin (rEqD false) (wVar 5) (wC (.int 4)))) (sRet (wTup (wCons (wVar 8) (wCons (wCall 3 s__law_table (wCons (wVar 0) (wCons (wVar 3) (wCons (wVar 7) (wNil))))) (wNil))))) (sNil)) (sRet (wTup (wCons (wVar 8) (wCons (wCall 3 s__law_table (wCons (wVar 0) (wCons (wVar 4) (wCons (wVar 7) (wNil))))) (wNil))))))))))))))
def W__law_open : DWS :=
  sSeq (sSet 2 (wLc (wiL (wSl (wVar 0) wNoP (wP (wC (.int 63))))) (gNm 5) (wYes) (wCB rAbs (wCons (wVar 5) (wNil))) [5])) (sSeq (sIf (wTB (wBin (rEqD false) (wVar 2) (wLst (wNil)))) (sSet 2 (wLst (wCons (wC (.int 0)) (wNil)))) (sNil)) (sSeq (sSet 3 (wBin rModD (wVar 1) (wCB rLen (wCons (wVar 2) (wNil))))) (sSeq (sSet 4 (wC (.int 0))) (sSeq (sIf (wAnd (wTB (wBin rGeI (wBin rIxA (wVar 2) (wVar 3)) (wBin rPowD (wC (.int 10)) (wC (.int 18))))) (wTB (wBin (rLtD false) (wVar 1) (wCB rLen (wCons (wVar 2) (wNil)))))) (sSet 4 (wBin rIxA (wVar 2) (wVar 3))) (sNil)) (sRet (wLstO (wCons (wVar 4) (wCons (wBin rAddD (wC (.int 1)) (wBin rMulD (wC (.int 101)) (wVar 1))) (wCons (wBin rAddD (wSl (wVar 2) (wP (wVar 3)) wNoP) (wSl (wVar 2) wNoP (wP (wVar 3)))) (wNil))))))))))
def W_law (C_Code : Addr) (s__law_tells s__law_draw s__law_end s__law_reached s_Code_init s__law_two s__law_open : DSp) : DWS :=
  sSeq (sSet 1 (wCall 2 s__law_open (wCons (wVar 0) (wCons (wC (.int 0)) (wNil))))) (sSeq (sAsg (gTp (gsCons (gNm 2) (gsCons (gNm 3) (gsNil)))) (wCall 1 s__law_two (wCons (wVar 1) (wNil)))) (sSeq (sPar 4 5 (wCons (wFrz (wMake C_Code 2 s_Code_init (wCons (wCB rList (wCons (wVar 2) (wNil))) (wNil)))) (wCons (wFrz (wMake C_Code 2 s_Code_init (wCons (wCB rList (wCons (wVar 3) (wNil))) (wNil)))) (wNil)))) (sSeq (sSet 6 (wCall 2 s__law_reached (wCons (wVar 2) (wCons (wVar 3) (wNil))))) (sSeq (sSet 7 (wBin (rEqD false) (wLc (wiL (wVar 6)) (gNm 15) (wTB (wCall 2 s__law_end (wCons (wVar 3) (wCons (wVar 15) (wNil))))) (wVar 15) [15]) (wLst (wNil)))) (sSeq (sSet 8 (wBin rModD (wCall 2 s__law_draw (wCons (wVar 1) (wCons (wC (.int 5000)) (wNil)))) (wCB rLen (wCons (wVar 6) (wNil))))) (sSeq (sSet 9 (wLst (wCons (wTup (wCons (wTup (wCons (wC (.int 1)) (wCons (wC (.int 2)) (wCons (wC (.int 3)) (wCons (wC (.int 4)) (wCons (wC (.int 5)) (wNil))))))) (wCons (wTup (wNil)) (wCons (wTup (wNil)) (wCons (wC (.bl true)) (wNil)))))) (wCons (wTup (wCons (wC (.int 7)) (wCons (wC (.str "a")) (wNil)))) (wCons (wTup (wCons (wTup (wNil)) (wCons (wTup (wNil)) (wCons (wTup (wNil)) (wCons (wC (.bl true)) (wNil)))))) (wCons (wTup (wCons (wTup (wCons (wTup (wCons (wC (.int 7)) (wNil))) (wNil))) (wCons (wTup (wCons (wC .non) (wCons (wC (.str "a")) (wNil)))) (wCons (wTup (wNil)) (wCons (wC (.int 1)) (wNil)))))) (wNil))))))) (sSeq (sAsg (gTp (gsCons (gNm 10) (gsCons (gNm 11) (gsCons (gNm 12) (gsCons (gNm 13) (gsNil)))))) (wBin rIxA (wVar 6) (wVar 8))) (sSeq (sSet 14 (wLstO (wCons (wTup (wCons (wVar 10) (wCons (wVar 11) (wCons (wVar 12) (wCons (wNotV (wVar 13)) (wNil)))))) (wNil)))) (sSeq (sIf (wTB (wBin (rEqD true) (wVar 11) (wVar 12))) (sDrop (wBM rApp (wVar 14) (wCons (wTup (wCons (wVar 10) (wCons (wVar 12) (wCons (wVar 11) (wCons (wVar 13) (wNil)))))) (wNil)))) (sNil)) (sSeq (sIf (wOr (wNot (wTB (wCall 4 s__law_tells (wCons (wVar 4) (wCons (wVar 5) (wCons (wVar 6) (wCons (wVar 7) (wNil)))))))) (wNot (wTB (wCall 4 s__law_tells (wCons (wVar 4) (wCons (wVar 5) (wCons (wRev (wVar 6)) (wCons (wVar 7) (wNil))))))))) (sRet (wC (.bl false))) (sNil)) (sSeq (sIf (wNot (wTB (wCall 4 s__law_tells (wCons (wVar 4) (wCons (wVar 5) (wCons (wBin rAddD (wBin rAddD (wBin rAddD (wSl (wVar 6) wNoP (wP (wVar 8))) (wVar 9)) (wSl (wVar 6) (wP (wVar 8)) wNoP)) (wLst (wCons (wBin rIxA (wVar 6) (wVar 8)) (wNil)))) (wCons (wVar 7) (wNil)))))))) (sRet (wC (.bl false))) (sNil)) (sSeq (sIf (wNot (wTB (wCall 4 s__law_tells (wCons (wVar 4) (wCons (wVar 5) (wCons (wBin rAddD (wSl (wVar 6) wNoP (wP (wVar 8))) (wSl (wVar 6) (wP (wBin rAddD (wVar 8) (wC (.int 1)))) wNoP)) (wCons (wC (.bl false)) (wNil)))))))) (sRet (wC (.bl false))) (sNil)) (sSeq (sFor (wiL (wVar 14)) (gNm 15) (sSeq (sSet 16 (wBin rAddD (wLc (wiL (wVar 6)) (gNm 17) (wTB (wBin (rEqD true) (wVar 17) (wBin rIxA (wVar 6) (wVar 8)))) (wVar 17) [17]) (wLst (wCons (wVar 15) (wNil))))) (sIf (wNot (wTB (wCall 4 s__law_tells (wCons (wVar 4) (wCons (wVar 5) (wCons (wVar 16) (wCons (wC (.bl false)) (wNil)))))))) (sRet (wC (.bl false))) (sNil)))) (sRet (wAndV (wCall 4 s__law_tells (wCons (wVar 4) (wCons (wVar 5) (wCons (wLst (wNil)) (wCons (wC (.bl false)) (wNil)))))) ((wCall 4 s__law_tells (wCons (wVar 4) (wCons (wVar 5) (wCons (wVar 6) (wCons (wVar 7) (wNil))))))))))))))))))))))
end DL
namespace DL
open PySem PySem.Spec L2
/-! the codes -/
abbrev Row := List Int
abbrev Tab := List (Int × Row)
abbrev rowD (l : Row) : D := .tup (l.map .int)
abbrev cellsD (l : Row) : D := .lst (l.map .int)
abbrev pairD (p : Int × Row) : D := .tup [.int p.1, .tup (p.2.map .int)]
abbrev tabD (t : Tab) : D := .lst (t.map pairD)
def codeF (t : Tab) : List (Str × D) := [("pairs", tabD t), ("words", .dct false (t.map fun p => (.int p.1, rowD p.2))), ("readings", .dct true (t.map fun p => (rowD p.2, .int p.1)))]
abbrev codeD (C : Addr) (t : Tab) : D := .obj C (codeF t)
@[simp] theorem cf_pairs {t : Tab} : (codeF t).lookup ("pairs" : Str) = some (tabD t) := id rfl
@[simp] theorem cf_words {t : Tab} : (codeF t).lookup ("words" : Str) = some (.dct false (t.map fun p => (.int p.1, rowD p.2))) := id rfl
@[simp] theorem cf_readings {t : Tab} : (codeF t).lookup ("readings" : Str) = some (.dct true (t.map fun p => (rowD p.2, .int p.1))) := id rfl
@[simp] theorem cf_sign {t : Tab} : (codeF t).lookup ("sign" : Str) = none := id rfl
@[simp] theorem cf_word {t : Tab} : (codeF t).lookup ("word" : Str) = none := id rfl
@[simp] theorem cf_table {t : Tab} : (codeF t).lookup ("table" : Str) = none := id rfl
@[simp] theorem cf_longest {t : Tab} : (codeF t).lookup ("longest" : Str) = none := id rfl
@[simp] theorem cf_live {t : Tab} : (codeF t).lookup ("live" : Str) = none := id rfl
@[simp] theorem cf_signs {t : Tab} : (codeF t).lookup ("signs" : Str) = none := id rfl
@[simp] theorem cf_same {t : Tab} : (codeF t).lookup ("same" : Str) = none := id rfl
def optI : Option Int → D
  | some i => .int i
  | none => .non
@[simp] theorem optI_some {i : Int} : optI (some i) = .int i := id rfl
@[simp] theorem optI_none : optI none = .non := id rfl
theorem keys_ints : ∀ l : List Int, D.keys (l.map .int) = some (l.map NestedKey.num)
  | [] => rfl
  | i :: l => by simp [D.keys, D.key, keys_ints l]
theorem key_row (l : Row) : D.key (rowD l) = some (.tup (l.map NestedKey.num)) := by simp [rowD, D.key, keys_ints]
theorem kdepth_nums : ∀ l : List Int, NestedKey.depthAll (l.map NestedKey.num) = 0
  | [] => by simp [NestedKey.depthAll]
  | i :: l => by simp [NestedKey.depthAll, NestedKey.depth, kdepth_nums l]
@[simp] theorem dkey_row {l : Row} : dkey true (.tup (l.map .int)) := ⟨_, key_row l, by simp [NestedKey.depth, kdepth_nums]⟩
theorem nums_inj {a b : List Int} (h : a.map NestedKey.num = b.map NestedKey.num) : a = b := by
  induction a generalizing b with
  | nil => cases b with | nil => rfl | cons => simp at h
  | cons x a ih => cases b with
    | nil => simp at h
    | cons y b => simp only [List.map_cons, List.cons.injEq, NestedKey.num.injEq] at h; rw [h.1, ih h.2]
@[simp] theorem kEq_row {a b : Row} : kEq (.tup (a.map .int)) (.tup (b.map .int)) = decide (a = b) := by
  unfold kEq
  rw [show D.key (.tup (a.map .int)) = _ from key_row a, show D.key (.tup (b.map .int)) = _ from key_row b]
  congr 1
  simp only [Option.some.injEq, NestedKey.tup.injEq, eq_iff_iff]
  exact ⟨nums_inj, fun h => by rw [h]⟩
@[simp] theorem kEq_int {a b : Int} : kEq (.int a) (.int b) = decide (a = b) := by
  unfold kEq
  congr 1
  simp [D.key]
theorem dget_map {α : Type} (t : List α) (f g : α → D) (k : D) : dget (t.map fun p => (f p, g p)) k = (t.find? fun p => kEq (f p) k).map g := by
  unfold dget
  rw [List.find?_map, Option.map_map]
  rfl
def signOf (t : Tab) (w : Row) : Option Int := (t.find? fun p => decide (p.2 = w)).map (·.1)
abbrev nn (k : Nat) : List Str := List.replicate k ""
/-- the reading w of a def with n parameters, k names keeps sp -/
def Okk (w : DWS) (sp : DSp) (n k : Nat) : Prop := ∀ (ds : List D) (M : Mem) (q : QE) (ex : Exn → Mem → Prop), ds.length = n → sp ds M q ex → w { nx := fun _ M' => q .non M', rt := q, ex := fun x _ M' => ex x M' } (startD (nn k) ds) M
@[simp] theorem aa_any {α : Type} {M : Mem} {q : QE} (l : List α) (f : α → Bool) : rAA false [.lst (l.map fun a => .bl (f a))] M q = q (.bl (l.any f)) M := by
  have : D.bls (l.map fun a => .bl (f a)) = some (l.map f) := by
    rw [show (l.map fun a => D.bl (f a)) = (l.map f).map D.bl by simp]
    exact bls_map _
  simp [rAA, this]
section
variable {C : Addr}
def s_Code_sign (C : Addr) : DSp := fun ds M q _ => ∃ t w, ds = [codeD C t, rowD w] ∧ q (optI (signOf t w)) M
theorem ok_Code_sign (C : Addr) : Okk (W_Code_sign C) (s_Code_sign C) 2 2 := by
  rintro ds M q ex hl ⟨t, w, rfl, h⟩
  simp [W_Code_sign, startD, dget_map]
  have e : optI (signOf t w) = (Option.map (fun p : Int × Row => D.int p.1) (List.find? (fun p => decide (p.2 = w)) t)).getD D.non := by
    unfold signOf
    cases List.find? (fun p => decide (p.2 = w)) t <;> rfl
  rw [← e]; exact h
def s_Code_table (C : Addr) : DSp := fun ds M q _ => ∃ t, ds = [codeD C t] ∧ q (tabD t) M
theorem ok_Code_table (C : Addr) : Okk (W_Code_table C) (s_Code_table C) 1 1 := by
  rintro ds M q ex hl ⟨t, rfl, h⟩
  simpa [W_Code_table, startD] using h
def liveB (t : Tab) (w : Row) : Bool := t.any fun p => decide (w.length < p.2.length) && decide (p.2.take w.length = w)
def s_Code_live (C : Addr) : DSp := fun ds M q _ => ∃ t w, ds = [codeD C t, cellsD w] ∧ t.length ≤ sizeLine ∧ q (.bl (liveB t w)) M
theorem ok_Code_live (C : Addr) : Okk (W_Code_live C) (s_Code_live C) 2 4 := by
  rintro ds M q ex hl ⟨t, w, rfl, hz, h⟩
  simp [W_Code_live, startD]
  refine lc_map (l := t) (e := fun p => rowD p.2) (fun p => .bl (decide (w.length < p.2.length) && decide (p.2.take w.length = w))) (fun _ _ _ => trivial) (fun p hp a m acc Qc h => ?_) hz ?_
  · simp [cut_to, ← List.map_take]
    by_cases hlt : w.length < a.2.length
    · simp [hlt] at h ⊢; exact h
    · simp [hlt] at h ⊢; exact h
  · simpa [liveB] using h
def maxLen (t : Tab) : Nat := (t.map fun p => p.2.length).foldl max 0
abbrev natD (n : Nat) : D := .int (n : Int)
theorem alk_nats (l : List Nat) : Alk (l.map natD) := by
  have e : D.pys (l.map natD) = l.map fun n : Nat => PyData.int (n : Int) := by rw [pys_map, List.map_map]; rfl
  refine ⟨?_, ?_, ?_⟩
  · rw [pls_all, List.all_eq_true]; intro d m; obtain ⟨n, _, rfl⟩ := List.mem_map.mp m; rfl
  · rw [e]
    refine ⟨fun x hx y hy => ?_, fun x hx => ?_⟩
    · obtain ⟨n, _, rfl⟩ := List.mem_map.mp hx
      obtain ⟨m, _, rfl⟩ := List.mem_map.mp hy
      simp [PySem.W.alike]
    · obtain ⟨n, _, rfl⟩ := List.mem_map.mp hx
      simp
  · rw [hgs_py]
    refine Nat.le_trans (hgs_le (n := 0) fun d m => ?_) (by decide)
    obtain ⟨n, _, rfl⟩ := List.mem_map.mp m
    exact Nat.le_refl _
theorem ltb_int (i j : Int) : (D.int i).ltb (.int j) = decide (i < j) := PySem.W.dataLt_int i j
theorem maxDD_nats : ∀ (l : List Nat) (n : Nat), maxDD (.int (n : Int)) (l.map natD) = .int ((l.foldl max n : Nat) : Int)
  | [], n => rfl
  | m :: l, n => by
    show maxDD (if (D.int (n : Int)).ltb (.int (m : Int)) = true then .int (m : Int) else .int (n : Int)) (l.map natD) = _
    rw [ltb_int]
    by_cases h : n < m
    · rw [if_pos (by simpa using h)]
      rw [maxDD_nats l m, List.foldl_cons, Nat.max_eq_right (Nat.le_of_lt h)]
    · rw [if_neg (by simpa using h)]
      rw [maxDD_nats l n, List.foldl_cons, Nat.max_eq_left (Nat.le_of_not_lt h)]
theorem maxDef_nats (l : List Nat) (M : Mem) (q : QE) (h : q (.int ((l.foldl max 0 : Nat) : Int)) M) : rMaxDef [.lst (l.map natD)] [.int 0] M q := by
  cases l with
  | nil => simpa [rMaxDef] using h
  | cons n l =>
    simp only [rMaxDef, List.map_cons, sq_lst]
    refine ⟨alk_nats (n :: l), ?_⟩
    rw [maxDD_nats]
    simpa using h
def s_Code_longest (C : Addr) : DSp := fun ds M q _ => ∃ t, ds = [codeD C t] ∧ t.length ≤ sizeLine ∧ q (.int (maxLen t : Int)) M
theorem ok_Code_longest (C : Addr) : Okk (W_Code_longest C) (s_Code_longest C) 1 2 := by
  rintro ds M q ex hl ⟨t, rfl, hz, h⟩
  simp [W_Code_longest, startD]
  refine lc_map (l := t) (e := fun p => rowD p.2) (fun p => .int (p.2.length : Int)) (fun _ _ _ => trivial) (fun p hp a m acc Qc h => ?_) hz ?_
  · simpa using h
  · have := maxDef_nats (t.map fun p => p.2.length) M q (by simpa [maxLen] using h)
    rw [List.map_map] at this
    exact this
end
end DL
namespace DL
open PySem PySem.Spec L2
def entFrom (t : Tab) (row : Row) : Nat → Nat → Option (Int × Nat)
  | 0, _ => none
  | n + 1, s => match signOf t (row.take s) with
    | some g => some (g, s)
    | none => entFrom t row n (s + 1)
abbrev Ent := Option (Option Int × Nat)
def entP (t : Tab) (row : Row) : Ent := match entFrom t row row.length 1 with
  | some (g, s) => some (some g, s)
  | none => if liveB t row = true then none else some (none, 1)
def entD : Ent → D
  | none => .non
  | some (g, n) => .tup [optI g, .int (n : Int)]
@[simp] theorem entD_none : entD none = .non := id rfl
@[simp] theorem entD_some {g : Option Int} {n : Nat} : entD (some (g, n)) = .tup [optI g, .int (n : Int)] := id rfl
theorem size_lt : sizeLine < 2 ^ 62 := by decide
def s_entry_at (C : Addr) : DSp := fun ds M q _ => ∃ t row, ds = [codeD C t, rowD row] ∧ t.length ≤ sizeLine ∧ row.length < sizeLine ∧ q (entD (entP t row)) M
theorem ok_entry_at (C : Addr) : Okk (W_entry_at C (s_Code_live C) (s_Code_sign C)) (s_entry_at C) 2 4 := by
  rintro ds M q ex hl ⟨t, row, rfl, hz, hr, h⟩
  simp [W_entry_at, startD]
  have := size_lt
  refine ⟨by omega, ?_⟩
  refine forL_inv (fun ds ρ M' => M' = M ∧ ∃ n s x2 x3, ds = intsD (s : Nat) n ∧ 1 ≤ s ∧ s + n = row.length + 1 ∧ ρ = [some (codeD C t), some (rowD row), x2, x3] ∧ entFrom t row row.length 1 = entFrom t row n s) (fun _ _ _ _ => trivial) ?_ ?_ _ _ _ ⟨rfl, row.length, 1, none, none, by simp, by omega, by omega, rfl, rfl⟩
  · rintro ρ M' ⟨rfl, n, s, x2, x3, e, h1, h2, rfl, h3⟩
    cases n with
    | succ n => rw [intsD_succ] at e; cases e
    | zero =>
      simp only [entFrom] at h3
      simp
      refine ⟨t, row, rfl, hz, ?_⟩
      unfold entP at h
      rw [h3] at h
      by_cases hlv : liveB t row = true
      · simp [hlv] at h ⊢; exact h
      · simp [hlv] at h ⊢; exact h
  · rintro d ds ρ M' K ⟨rfl, n, s, x2, x3, e, h1, h2, rfl, h3⟩ hK
    cases n with
    | zero => rw [intsD_zero] at e; cases e
    | succ n =>
      rw [intsD_succ] at e
      cases e
      simp [cut_to, ← List.map_take]
      refine ⟨t, row.take s, rfl, ?_⟩
      rw [entFrom] at h3
      cases hs : signOf t (row.take s) with
      | none =>
        rw [hs] at h3
        simp
        exact hK _ _ ⟨rfl, n, s + 1, _, _, by simp, by omega, by omega, rfl, h3⟩
      | some g =>
        rw [hs] at h3
        unfold entP at h
        rw [h3] at h
        simpa using h
theorem entFrom_ge (t : Tab) (row : Row) : ∀ (n s : Nat) (g : Int) (k : Nat), entFrom t row n s = some (g, k) → s ≤ k
  | 0, _, _, _, h => by cases h
  | n + 1, s, g, k, h => by
    rw [entFrom] at h
    split at h
    · cases h; exact Nat.le_refl _
    · exact Nat.le_of_succ_le (entFrom_ge t row n (s + 1) g k h)
theorem entP_ge {t : Tab} {row : Row} {g : Option Int} {n : Nat} (h : entP t row = some (g, n)) : 1 ≤ n := by
  unfold entP at h
  split at h
  · next g' s e => cases h; exact entFrom_ge _ _ _ _ _ _ e
  · split at h
    · cases h
    · cases h; exact Nat.le_refl _
@[simp] theorem cok_optI {i : Option Int} : (optI i).cok = true := by cases i <;> simp
@[simp] theorem eqb_optI {i j : Option Int} : (optI i).eqb (optI j) = decide (i = j) := by cases i <;> cases j <;> simp
theorem ck_optI {i : Option Int} {n : Nat} : (optI i).Ck n := by cases i with | none => exact Ck.non | some i => exact Ck.int
@[simp] theorem cok_ent {g : Option Int} {n : Int} : (D.tup [optI g, .int n]).cok = true := Ck.cok (n := 1) (Ck.tup fun d m => by
  simp at m
  rcases m with rfl | rfl
  · exact ck_optI
  · exact Ck.int) (by decide)
def setP (t : Tab) : Nat → Row → Row → Option (Row × Row)
  | 0, _, _ => some ([], [])
  | n + 1, l, r => if l = [] then some ([], []) else match entP t l, entP t r with
    | some a, some b => if a = b then setP t n (l.drop a.2) (r.drop a.2) else none
    | _, _ => some (l, r)
theorem setP_fuel (t : Tab) : ∀ (n m : Nat) (l r : Row), l.length < n → l.length < m → setP t n l r = setP t m l r
  | 0, _, _, _, h, _ => absurd h (Nat.not_lt_zero _)
  | _, 0, _, _, _, h => absurd h (Nat.not_lt_zero _)
  | n + 1, m + 1, l, r, h1, h2 => by
    rw [setP, setP]
    by_cases e : l = []
    · rw [if_pos e, if_pos e]
    · rw [if_neg e, if_neg e]
      cases hm : entP t l with
      | none => rfl
      | some a =>
        cases ht : entP t r with
        | none => rfl
        | some b =>
          by_cases eq : a = b
          · obtain ⟨g, i⟩ := a
            have hi := entP_ge hm
            have hp : 0 < l.length := List.length_pos_iff.mpr e
            simp only [if_pos eq]
            exact setP_fuel t n m _ _ (by simp; omega) (by simp; omega)
          · simp only [if_neg eq]
def setD : Option (Row × Row) → D
  | none => .non
  | some (a, b) => .tup [rowD a, rowD b]
@[simp] theorem setD_none : setD none = .non := id rfl
@[simp] theorem setD_some {a b : Row} : setD (some (a, b)) = .tup [rowD a, rowD b] := id rfl
def s_settled (C : Addr) : DSp := fun ds M q _ => ∃ t l r, ds = [codeD C t, rowD l, rowD r] ∧ t.length ≤ sizeLine ∧ l.length < sizeLine ∧ r.length < sizeLine ∧ q (setD (setP t (l.length + 1) l r)) M
theorem ok_settled (C : Addr) : Okk (W_settled (s_entry_at C)) (s_settled C) 3 5 := by
  rintro ds M q ex hl ⟨t, l, r, rfl, hz, h1, h2, h⟩
  simp [W_settled, startD]
  refine whl_inv (fun n ρ M' => M' = M ∧ ∃ l' r' x3 x4, n = l'.length ∧ ρ = [some (codeD C t), some (rowD l'), some (rowD r'), x3, x4] ∧ l'.length < sizeLine ∧ r'.length < sizeLine ∧ setP t (l.length + 1) l r = setP t (n + 1) l' r') (n := l.length) ⟨rfl, l, r, none, none, rfl, rfl, h1, h2, rfl⟩ ?_
  rintro n ρ M' K ⟨rfl, l', r', x3, x4, rfl, rfl, h3, h4, h5⟩ hK
  rw [h5, setP] at h
  by_cases e : l' = []
  · simp [e] at h ⊢
    exact h
  · simp [e] at h ⊢
    refine ⟨t, l', rfl, hz, h3, ?_⟩
    simp
    refine ⟨t, r', rfl, hz, h4, ?_⟩
    cases hm : entP t l' with
    | none => rw [hm] at h; simpa using h
    | some a =>
      obtain ⟨g, i⟩ := a
      cases ht : entP t r' with
      | none => rw [hm, ht] at h; simpa using h
      | some b =>
        obtain ⟨g', i'⟩ := b
        rw [hm, ht] at h
        simp at h ⊢
        by_cases eq : g = g' ∧ i = i'
        · obtain ⟨rfl, rfl⟩ := eq
          simp [cut_from, ← List.map_drop]
          have hi := entP_ge hm
          have hp : 0 < l'.length := List.length_pos_iff.mpr e
          refine hK (l'.drop i).length _ _ (by simp; omega) ⟨rfl, l'.drop i, r'.drop i, _, _, rfl, rfl, by simp; omega, by simp; omega, ?_⟩
          rw [h5, setP]
          simp only [if_neg e, hm, ht, if_true]
          exact setP_fuel t _ _ _ _ (by simp; omega) (by simp)
        · simp [eq] at h ⊢
          have hc : ¬ (g = g' ∧ (i : Int) = (i' : Int)) := fun z => eq ⟨z.1, by omega⟩
          rw [if_pos (Classical.not_and_iff_not_or_not.mp hc)]
          exact h
abbrev St4 := Row × Row × Row × Bool
def stateD (s : St4) : D := .tup [rowD s.1, rowD s.2.1, rowD s.2.2.1, .bl s.2.2.2]
def rowLt (a b : Row) : Bool := (rowD a).ltb (rowD b)
theorem alikeAll_ints : ∀ a b : List Int, PySem.W.alikeAll (D.pys (a.map D.int)) (D.pys (b.map D.int)) = true
  | [], _ => by simp [D.pys, PySem.W.alikeAll]
  | _ :: _, [] => by simp [D.pys, PySem.W.alikeAll]
  | x :: a, y :: b => by simp [D.pys, D.py, PySem.W.alikeAll, PySem.W.alike, alikeAll_ints a b]
theorem alike_rows (a b : Row) : PySem.W.alike (rowD a).py (rowD b).py = true := by simp [rowD, D.py, PySem.W.alike, alikeAll_ints]
theorem pl_row (a : Row) : (rowD a).pl = true := by
  show D.pls (a.map D.int) = true
  rw [pls_all, List.all_eq_true]; intro d m; obtain ⟨i, _, rfl⟩ := List.mem_map.mp m; rfl
theorem depth_row (a : Row) : (rowD a).py.depth ≤ 1 := by
  rw [hg_py]; exact (Ck.ints (l := a) (n := 0)).2
@[simp] theorem ltD_row {gt : Bool} {a b : Row} {M : Mem} {Q : QE} : rLtD gt (.tup (a.map .int)) (.tup (b.map .int)) M Q = Q (.bl (if gt then rowLt b a else rowLt a b)) M := by
  show ((_ ∧ _) ∧ _) = _
  refine propext ⟨fun h => h.2, fun h => ⟨⟨⟨pl_row a, pl_row b⟩, alike_rows a b, by simp [D.py], Nat.le_trans (depth_row a) (by decide), Nat.le_trans (depth_row b) (by decide)⟩, h⟩⟩
@[simp high] theorem mm_minN {a b : Nat} {M : Mem} {Q : QE} : rMM false [.int (a : Int), .int (b : Int)] M Q = Q (.int ((min a b : Nat) : Int)) M := by
  rw [mm_int]
  have : (if false = true then (if (b : Int) > a then (b : Int) else a) else if (b : Int) < a then (b : Int) else a) = ((min a b : Nat) : Int) := by
    simp only [Bool.false_eq_true, if_false]
    split <;> omega
  rw [this]
@[simp high] theorem mm_maxN {a b : Nat} {M : Mem} {Q : QE} : rMM true [.int (a : Int), .int (b : Int)] M Q = Q (.int ((max a b : Nat) : Int)) M := by
  rw [mm_int]
  have : (if true = true then (if (b : Int) > a then (b : Int) else a) else if (b : Int) < a then (b : Int) else a) = ((max a b : Nat) : Int) := by
    simp only [if_true]
    split <;> omega
  rw [this]
def setP' (t : Tab) (l r : Row) : Option (Row × Row) := setP t (l.length + 1) l r
def grownP (t : Tab) (s : St4) (w : Row) : Option (St4 × Bool) :=
  match setP' t (s.2.1 ++ s.1.take (min s.1.length w.length)) (s.2.2.1 ++ w.take (min s.1.length w.length)) with
  | none => none
  | some (a, b) => if w.length > min s.1.length w.length then some ((w.drop (min s.1.length w.length), b, a, s.2.2.2), true)
    else if s.1.length = min s.1.length w.length ∧ rowLt b a = true then some (([], b, a, s.2.2.2), true)
    else some ((s.1.drop (min s.1.length w.length), a, b, s.2.2.2), false)
def grD : Option (St4 × Bool) → D
  | none => .non
  | some (s, b) => .tup [stateD s, .bl b]
@[simp] theorem grD_none : grD none = .non := id rfl
@[simp] theorem grD_some {s : St4} {b : Bool} : grD (some (s, b)) = .tup [stateD s, .bl b] := id rfl
theorem stateD_mk {a b c : Row} {u : Bool} : stateD (a, b, c, u) = .tup [rowD a, rowD b, rowD c, .bl u] := rfl
def s_grown (C : Addr) : DSp := fun ds M q _ => ∃ t s w, ds = [codeD C t, stateD s, rowD w] ∧ t.length ≤ sizeLine ∧ s.1.length + s.2.1.length < sizeLine ∧ w.length + s.2.2.1.length < sizeLine ∧ q (grD (grownP t s w)) M
theorem ok_grown (C : Addr) : Okk (W_grown (s_settled C)) (s_grown C) 3 9 := by
  rintro ds M q ex hl ⟨t, ⟨rest, left, right, u⟩, w, rfl, hz, h1, h2, h⟩
  simp only at h1 h2
  generalize hm : min rest.length w.length = m
  have m1 : m ≤ rest.length := by omega
  have m2 : m ≤ w.length := by omega
  simp only [grownP, setP', hm] at h
  simp [W_grown, startD, stateD, hm, cut_to, ← List.map_take]
  refine ⟨by omega, by omega, t, left ++ rest.take m, right ++ w.take m, by simp, hz, by simp; omega, by simp; omega, ?_⟩
  cases e : setP t ((left ++ rest.take m).length + 1) (left ++ rest.take m) (right ++ w.take m) with
  | none => rw [e] at h; simpa using h
  | some p =>
    obtain ⟨a, b⟩ := p
    rw [e] at h
    simp [cut_from, ← List.map_drop, stateD]
    simp only at h
    by_cases c1 : m < w.length
    · rw [if_pos c1] at h ⊢
      exact h
    · rw [if_neg c1] at h ⊢
      by_cases c2 : rest.length = m
      · rw [if_pos (by omega)]
        by_cases c3 : rowLt b a = true
        · rw [if_pos ⟨c2, c3⟩] at h
          rw [if_pos c3]
          exact h
        · rw [if_neg (fun z => c3 z.2)] at h
          rw [if_neg c3]
          exact h
      · rw [if_neg (fun z => c2 z.1)] at h
        rw [if_neg (by omega)]
        exact h
/-! ### the steps from a state -/
abbrev Stp := St4 × List Int × List Int × Bool
def stepD (s : Stp) : D := .tup [stateD s.1, cellsD s.2.1, cellsD s.2.2.1, .bl s.2.2.2]
abbrev stepsD (l : List Stp) : D := .lst (l.map stepD)
/-- the pairs behind each one -/
def tails {α : Type} : List α → List (α × List α)
  | [] => []
  | x :: l => (x, l) :: tails l
def alikeP (t : Tab) (one : Tab) (s : St4) : Option (List Stp) := (tails one).foldlM (fun acc p =>
  match setP' t (s.2.1 ++ p.1.2) (s.2.2.1 ++ p.1.2) with
  | none => none
  | some (a, b) => some (acc ++ (([], a, b, false), [p.1.1], [p.1.1], false) :: p.2.filterMap fun r => (grownP t (p.1.2, s.2.1, s.2.2.1, true) r.2).map fun z => (z.1, [p.1.1], [r.1], z.2))) []
end DL
namespace DL
open PySem PySem.Spec L2
@[simp] theorem stepD_def (s : Stp) : stepD s = .tup [stateD s.1, cellsD s.2.1, cellsD s.2.2.1, .bl s.2.2.2] := id rfl
def alikeG (t : Tab) (s : St4) (p r : Int × Row) : Option Stp := (grownP t (p.2, s.2.1, s.2.2.1, true) r.2).map fun z => (z.1, [p.1], [r.1], z.2)
def alike0 (t : Tab) (s : St4) (p : Int × Row) : Stp := (([], ((setP' t (s.2.1 ++ p.2) (s.2.2.1 ++ p.2)).getD ([], [])).1, ((setP' t (s.2.1 ++ p.2) (s.2.2.1 ++ p.2)).getD ([], [])).2, false), [p.1], [p.1], false)
def alikeA (t : Tab) (s : St4) : Tab → List Stp
  | [] => []
  | p :: l => (alike0 t s p :: l.filterMap (alikeG t s p)) ++ alikeA t s l
/-- sizes that all stay small -/
def Sm (t : Tab) (s : St4) : Prop := t.length ≤ 1000 ∧ (∀ p ∈ t, p.2.length ≤ 1000) ∧ s.1.length ≤ 1000 ∧ s.2.1.length ≤ 1000 ∧ s.2.2.1.length ≤ 1000
theorem sz_small : (4000000 : Nat) < sizeLine := by decide
def s_alike_steps (C : Addr) : DSp := fun ds M q _ => ∃ t one s, ds = [codeD C one, codeD C t, stateD s] ∧ t.length ≤ 1000 ∧ Sm one s ∧ (∀ p ∈ one, setP' t (s.2.1 ++ p.2) (s.2.2.1 ++ p.2) ≠ none) ∧ q (stepsD (alikeA t s one)) M
theorem cut_from1 {α : Type} (xs : List α) (n : Nat) : cutD xs (some ((n : Int) + 1)) none = xs.drop (n + 1) := by rw [← cut_from]; rfl
theorem ok_alike_steps (C : Addr) : Okk (W_alike_steps C (s_grown C) (s_settled C) (s_Code_table C)) (s_alike_steps C) 3 12 := by
  rintro ds M q ex hl ⟨t, one, ⟨rs, left, right, u⟩, rfl, hz, ⟨z1, z2, z3, z4, z5⟩, hn, h⟩
  have hsz := sz_small
  simp only at z3 z4 z5 hn
  simp [W_alike_steps, startD]
  intro p hp
  refine ⟨one, rfl, ?_⟩
  simp
  refine ⟨by omega, ?_⟩
  refine forL_inv (fun ds ρ M' => ∃ (i : Nat) (l : Tab) (acc : List Stp) (x5 x6 x7 x8 x9 x10 x11 : Option D), ds = intsD (i : Int) l.length ∧ l = one.drop i ∧ acc.length ≤ i * 1001 ∧ M' = M.set p (.lst (acc.map stepD)) ∧
    ρ = [some (codeD C one), some (codeD C t), some (stateD (rs, left, right, u)), some (.ptr p), some (tabD one), x5, x6, x7, x8, x9, x10, x11] ∧ acc ++ alikeA t (rs, left, right, u) l = alikeA t (rs, left, right, u) one) (fun _ _ _ _ => trivial) ?_ ?_ _ _ _ ⟨0, one, [], none, none, none, none, none, none, none, by simp, by simp, by simp, by simp, rfl, by simp⟩
  · rintro ρ M' ⟨i, l, acc, x5, x6, x7, x8, x9, x10, x11, e, hl, ha, rfl, rfl, hacc⟩
    cases l with
    | cons a l => simp only [List.length_cons, intsD_succ] at e; cases e
    | nil =>
      simp [alikeA] at hacc
      simp only [e_ret]
      rw [e_varF (p := p) rfl mem_ss, Mem.del_set hp, hacc]
      exact h
  · rintro d ds ρ M' K ⟨i, l, acc, x5, x6, x7, x8, x9, x10, x11, e, hl, ha, rfl, rfl, hacc⟩ hK
    cases l with
    | nil => rw [show ([] : Tab).length = 0 from rfl, intsD_zero] at e; cases e
    | cons a l =>
      rw [List.length_cons, intsD_succ] at e
      cases e
      have hi : one[i]? = some a := by
        have := congrArg (fun l => l[0]?) hl
        simpa using this.symm
      have hia : i < one.length := (List.getElem?_eq_some_iff.mp hi).1
      have ham : a ∈ one := List.mem_of_getElem? hi
      have hl' : l = one.drop (i + 1) := by
        have := congrArg List.tail hl
        simpa using this
      have hlen : l.length + i + 1 = one.length := by rw [hl']; simp; omega
      simp [hi, stateD_mk]
      refine ⟨by have := z2 a ham; omega, by have := z2 a ham; omega, t, left ++ a.2, right ++ a.2, by simp, by omega, by have := z2 a ham; simp; omega, by have := z2 a ham; simp; omega, ?_⟩
      have hna := hn a ham
      cases e : setP' t (left ++ a.2) (right ++ a.2) with
      | none => exact absurd e hna
      | some w =>
        obtain ⟨b1, b2⟩ := w
        have e' := e
        unfold setP' at e'
        rw [e']
        have hacc1 : acc.length + 1 ≤ 1002001 := by
          have : i * 1001 ≤ 1000 * 1001 := Nat.mul_le_mul_right _ (by omega)
          omega
        simp [cut_from1, ← List.map_drop, ← hl']
        refine ⟨by omega, ?_⟩
        have ha0 : alike0 t (rs, left, right, u) a = (([], b1, b2, false), [a.1], [a.1], false) := by simp [alike0, e]
        refine forL_inv (fun ds ρ M' => ∃ (j : Nat) (l2 : Tab) (acc2 : List Stp) (x9 x10 x11 : Option D), ds = l2.map pairD ∧ j + l2.length = l.length ∧ (∀ r ∈ l2, r ∈ one) ∧ acc2.length ≤ i * 1001 + 1 + j ∧ M' = M.set p (.lst (acc2.map stepD)) ∧
          ρ = [some (codeD C one), some (codeD C t), some (stateD (rs, left, right, u)), some (.ptr p), some (tabD one), some (.int i), some (.int a.1), some (rowD a.2), some (.tup [rowD b1, rowD b2]), x9, x10, x11] ∧ acc2 ++ l2.filterMap (alikeG t (rs, left, right, u) a) ++ alikeA t (rs, left, right, u) l = alikeA t (rs, left, right, u) one)
          (fun _ _ _ _ => trivial) ?_ ?_ _ _ _ ⟨0, l, acc ++ [alike0 t (rs, left, right, u) a], x9, x10, x11, rfl, by omega, fun r hr => by rw [hl'] at hr; exact List.mem_of_mem_drop hr, by simp; omega, by simp [ha0]; rfl, rfl, by rw [← hacc, alikeA]; simp⟩
        · rintro ρ M' ⟨j, l2, acc2, y9, y10, y11, e2, h1, h2, h3, rfl, rfl, h4⟩
          cases l2 with
          | cons r l2 => cases e2
          | nil =>
            refine hK _ _ ⟨i + 1, l, acc2, _, _, _, _, y9, y10, y11, by simp, hl', ?_, rfl, rfl, by simpa using h4⟩
            simp at h1
            have : (i + 1) * 1001 = i * 1001 + 1001 := by omega
            omega
        · rintro d ds ρ M' K2 ⟨j, l2, acc2, y9, y10, y11, e2, h1, h2, h3, rfl, rfl, h4⟩ hK2
          cases l2 with
          | nil => cases e2
          | cons r l2 =>
            cases e2
            have hr := h2 r (by simp)
            have zr := z2 r hr
            have za := z2 a ham
            have hacc2 : acc2.length + 1 ≤ 1003001 := by
              have : i * 1001 ≤ 1000 * 1001 := Nat.mul_le_mul_right _ (by omega)
              simp at h1
              omega
            simp [stateD_mk]
            refine ⟨t, (a.2, left, right, true), r.2, rfl, by omega, by simp; omega, by simp; omega, ?_⟩
            cases eg : grownP t (a.2, left, right, true) r.2 with
            | none =>
              simp
              refine hK2 _ _ ⟨j + 1, l2, acc2, _, _, _, rfl, by simp at h1; omega, fun x hx => h2 x (by simp [hx]), by omega, rfl, rfl, ?_⟩
              rw [← h4]
              simp [alikeG, eg]
            | some z =>
              obtain ⟨z1', z2'⟩ := z
              simp
              refine ⟨by omega, ?_⟩
              refine hK2 _ _ ⟨j + 1, l2, acc2 ++ [(z1', [a.1], [r.1], z2')], _, _, _, rfl, by simp at h1; omega, fun x hx => h2 x (by simp [hx]), by simp; omega, by simp; rfl, rfl, ?_⟩
              rw [← h4]
              simp [alikeG, eg]
def nextB (t : Tab) (s : St4) (p : Int × Row) : List Stp :=
  if s.1 = [] then [((p.2, s.2.1, s.2.2.1, true), [p.1], [], false), ((p.2, s.2.2.1, s.2.1, true), [], [p.1], true)]
  else match grownP t s p.2 with
    | none => []
    | some z => [(z.1, [], [p.1], z.2)]
def nextP (t one : Tab) (s : St4) : List Stp := if s.2.2.2 = true then one.flatMap (nextB t s) else alikeA t s one
def s_next_steps (C : Addr) : DSp := fun ds M q _ => ∃ t one s, ds = [codeD C one, codeD C t, stateD s] ∧ t.length ≤ 1000 ∧ Sm one s ∧ (s.2.2.2 = false → ∀ p ∈ one, setP' t (s.2.1 ++ p.2) (s.2.2.1 ++ p.2) ≠ none) ∧ q (stepsD (nextP t one s)) M
theorem ok_next_steps (C : Addr) : Okk (W_next_steps C (s_Code_table C) (s_grown C) (s_alike_steps C)) (s_next_steps C) 3 11 := by
  rintro ds M q ex hl ⟨t, one, ⟨rs, left, right, u⟩, rfl, hz, hS, hn, h⟩
  have hsz := sz_small
  obtain ⟨z1, z2, z3, z4, z5⟩ := id hS
  simp only at z3 z4 z5 hn
  simp only [nextP] at h
  cases u with
  | false =>
    simp [W_next_steps, startD, stateD_mk]
    exact ⟨t, one, (rs, left, right, false), rfl, hz, hS, hn rfl, by simpa using h⟩
  | true =>
    simp [W_next_steps, startD, stateD_mk]
    intro p hp
    refine ⟨one, rfl, ?_⟩
    simp
    refine forL_inv (fun ds ρ M' => ∃ (j : Nat) (l : Tab) (acc : List Stp) (x8 x9 x10 : Option D), ds = l.map pairD ∧ j + l.length = one.length ∧ (∀ r ∈ l, r ∈ one) ∧ acc.length ≤ 2 * j ∧ M' = M.set p (.lst (acc.map stepD)) ∧
      ρ = [some (codeD C one), some (codeD C t), some (stateD (rs, left, right, true)), some (rowD rs), some (rowD left), some (rowD right), some (.bl true), some (.ptr p), x8, x9, x10] ∧ acc ++ l.flatMap (nextB t (rs, left, right, true)) = one.flatMap (nextB t (rs, left, right, true)))
      (fun _ _ _ _ => trivial) ?_ ?_ _ _ _ ⟨0, one, [], none, none, none, rfl, by omega, fun r hr => hr, by simp, by simp, rfl, by simp⟩
    · rintro ρ M' ⟨j, l, acc, y8, y9, y10, e, h1, h2, h3, rfl, rfl, h4⟩
      cases l with
      | cons r l => cases e
      | nil =>
        simp at h4
        simp only [e_ret]
        rw [e_varF (p := p) rfl mem_ss, Mem.del_set hp, h4]
        exact h
    · rintro d ds ρ M' K ⟨j, l, acc, y8, y9, y10, e, h1, h2, h3, rfl, rfl, h4⟩ hK
      cases l with
      | nil => cases e
      | cons r l =>
        cases e
        have hr := h2 r (by simp)
        have zr := z2 r hr
        simp at h1
        simp
        by_cases c : rs = []
        · rw [if_pos c]
          refine ⟨by omega, by omega, hK _ _ ⟨j + 1, l, acc ++ [((r.2, left, right, true), [r.1], [], false), ((r.2, right, left, true), [], [r.1], true)], _, _, _, rfl, by omega, fun x hx => h2 x (by simp [hx]), by simp; omega, by simp; rfl, rfl, ?_⟩⟩
          rw [← h4]
          simp [nextB, c]
        · rw [if_neg c]
          refine ⟨t, (rs, left, right, true), r.2, rfl, by omega, by simp; omega, by simp; omega, ?_⟩
          cases eg : grownP t (rs, left, right, true) r.2 with
          | none =>
            simp
            refine hK _ _ ⟨j + 1, l, acc, _, _, _, rfl, by omega, fun x hx => h2 x (by simp [hx]), by omega, rfl, rfl, ?_⟩
            rw [← h4]
            simp [nextB, c, eg]
          | some z =>
            obtain ⟨z1', z2'⟩ := z
            simp
            refine ⟨by omega, hK _ _ ⟨j + 1, l, acc ++ [(z1', [], [r.1], z2')], _, _, _, rfl, by omega, fun x hx => h2 x (by simp [hx]), by simp; omega, by simp; rfl, rfl, ?_⟩⟩
            rw [← h4]
            simp [nextB, c, eg]
end DL
namespace DL
open PySem PySem.Spec L2
/-! ### entries of a row -/
def sgnF (t : Tab) (row : Row) (at_ : Nat) : Option (Int × Nat) := entFrom t (row.drop at_) (min (maxLen t) (row.length - at_)) 1
def sgnD (at_ : Nat) : Option (Int × Nat) → D
  | none => .non
  | some (g, s) => .tup [.int g, .int ((at_ + s : Nat) : Int)]
@[simp] theorem sgnD_none {a : Nat} : sgnD a none = .non := rfl
@[simp] theorem sgnD_some {a s : Nat} {g : Int} : sgnD a (some (g, s)) = .tup [.int g, .int ((a + s : Nat) : Int)] := rfl
def s_sign_from (C : Addr) : DSp := fun ds M q _ => ∃ t row, ∃ at_ : Nat, ds = [codeD C t, cellsD row, .int at_] ∧ t.length ≤ sizeLine ∧ row.length < sizeLine ∧ at_ ≤ row.length ∧ q (sgnD at_ (sgnF t row at_)) M
theorem cut_ad {α : Type} (xs : List α) (a s : Nat) : cutD xs (some (a : Int)) (some ((a : Int) + (s : Int))) = (xs.drop a).take s := by
  have := cut_mid xs a (a + s)
  rw [Nat.add_sub_cancel_left] at this
  rw [← this]; rfl
theorem ok_sign_from (C : Addr) : Okk (W_sign_from C (s_Code_longest C) (s_Code_sign C)) (s_sign_from C) 3 5 := by
  rintro ds M q ex hl ⟨t, row, a, rfl, hz, hr, ha, h⟩
  have := size_lt
  have ec : (row.length : Int) - (a : Int) = ((row.length - a : Nat) : Int) := by omega
  simp [W_sign_from, startD]
  refine ⟨t, rfl, hz, ?_⟩
  simp [ec]
  refine ⟨by omega, ?_⟩
  generalize hk : min (maxLen t) (row.length - a) = k at *
  have hk2 : k ≤ row.length - a := by omega
  refine forL_inv (fun ds ρ M' => M' = M ∧ ∃ (n s : Nat) (x3 x4 : Option D), ds = intsD (s : Nat) n ∧ 1 ≤ s ∧ s + n = k + 1 ∧ ρ = [some (codeD C t), some (cellsD row), some (.int a), x3, x4] ∧ entFrom t (row.drop a) k 1 = entFrom t (row.drop a) n s) (fun _ _ _ _ => trivial) ?_ ?_ _ _ _ ⟨rfl, k, 1, none, none, by simp, by omega, by omega, rfl, rfl⟩
  · rintro ρ M' ⟨rfl, n, s, x3, x4, e, h1, h2, rfl, h3⟩
    cases n with
    | succ n => rw [intsD_succ] at e; cases e
    | zero =>
      rw [sgnF, hk, h3] at h
      simpa [entFrom] using h
  · rintro d ds ρ M' K ⟨rfl, n, s, x3, x4, e, h1, h2, rfl, h3⟩ hK
    cases n with
    | zero => rw [intsD_zero] at e; cases e
    | succ n =>
      rw [intsD_succ] at e
      cases e
      simp [cut_ad, ← List.map_take, ← List.map_drop]
      refine ⟨t, (row.drop a).take s, by simp, ?_⟩
      rw [entFrom] at h3
      cases hs : signOf t ((row.drop a).take s) with
      | none =>
        rw [hs] at h3
        simp
        exact hK _ _ ⟨rfl, n, s + 1, _, _, by simp, by omega, by omega, rfl, h3⟩
      | some g =>
        rw [hs] at h3
        rw [sgnF, hk, h3] at h
        simpa using h
abbrev Ens := List (Nat × Option Int)
def splP (t : Tab) (row : Row) : Nat → Nat → Ens
  | 0, _ => []
  | n + 1, a => if a < row.length then (match sgnF t row a with
    | some (g, s) => (a, some g) :: splP t row n (a + s)
    | none => (a, none) :: splP t row n (a + 1)) else []
abbrev ensD (l : Ens) : D := .lst (l.map fun p => .tup [.int (p.1 : Int), optI p.2])
theorem sgnF_size {t : Tab} {row : Row} {a : Nat} {g : Int} {s : Nat} (h : sgnF t row a = some (g, s)) : 1 ≤ s ∧ s ≤ row.length - a := by
  refine ⟨entFrom_ge _ _ _ _ _ _ h, ?_⟩
  have : ∀ (n s0 : Nat) (g : Int) (k : Nat), entFrom t (row.drop a) n s0 = some (g, k) → k < s0 + n := by
    intro n
    induction n with
    | zero => intro s0 g k h; cases h
    | succ n ih =>
      intro s0 g k h
      rw [entFrom] at h
      split at h
      · cases h; omega
      · have := ih _ _ _ h; omega
  have := this _ _ _ _ h
  omega
theorem splP_fuel (t : Tab) (row : Row) : ∀ (n m a : Nat), row.length - a ≤ n → row.length - a ≤ m → splP t row n a = splP t row m a
  | 0, 0, _, _, _ => rfl
  | 0, m + 1, a, h1, _ => by rw [splP, splP, if_neg (by omega)]
  | n + 1, 0, a, _, h2 => by rw [splP, splP, if_neg (by omega)]
  | n + 1, m + 1, a, h1, h2 => by
    rw [splP, splP]
    by_cases c : a < row.length
    · rw [if_pos c, if_pos c]
      cases e : sgnF t row a with
      | none => simp only; rw [splP_fuel t row n m (a + 1) (by omega) (by omega)]
      | some w =>
        obtain ⟨g, s⟩ := w
        have := (sgnF_size e).1
        simp only
        rw [splP_fuel t row n m (a + s) (by omega) (by omega)]
    · rw [if_neg c, if_neg c]
def s_spilt (C : Addr) : DSp := fun ds M q _ => ∃ t row, ds = [codeD C t, cellsD row] ∧ t.length ≤ sizeLine ∧ row.length < sizeLine ∧ q (ensD (splP t row row.length 0)) M
theorem ok_spilt (C : Addr) : Okk (W_spilt (s_sign_from C)) (s_spilt C) 2 5 := by
  rintro ds M q ex hl ⟨t, row, rfl, hz, hr, h⟩
  simp [W_spilt, startD]
  intro p hp
  refine whl_inv (fun n ρ M' => ∃ (a : Nat) (acc : Ens) (x4 : Option D), n = row.length - a ∧ a ≤ row.length ∧ acc.length ≤ a ∧ M' = M.set p (.lst (acc.map fun p => .tup [.int (p.1 : Int), optI p.2])) ∧
    ρ = [some (codeD C t), some (cellsD row), some (.ptr p), some (.int (a : Int)), x4] ∧ acc ++ splP t row (row.length - a) a = splP t row row.length 0) (n := row.length) ⟨0, [], none, by omega, by omega, by simp, by simp, rfl, by simp⟩ ?_
  rintro n ρ M' K ⟨a, acc, x4, rfl, ha, hacc, rfl, rfl, h1⟩ hK
  by_cases c : a < row.length
  · have hd : (decide (a < row.length)) = true := by simpa using c
    simp [hd, c]
    refine ⟨t, row, a, by simp, hz, hr, ha, ?_⟩
    obtain ⟨k, hk⟩ : ∃ k, row.length - a = k + 1 := ⟨row.length - a - 1, by omega⟩
    rw [hk, splP, if_pos c] at h1
    cases e : sgnF t row a with
    | none =>
      rw [e] at h1
      simp
      refine ⟨by omega, hK (row.length - (a + 1)) _ _ (by omega) ⟨a + 1, acc ++ [(a, none)], some (.tup [.non, .int ((a : Int) + 1)]), rfl, by omega, by simp; omega, by simp, by simp, ?_⟩⟩
      rw [← h1]
      simp
      exact splP_fuel _ _ _ _ _ (by omega) (by omega)
    | some w =>
      obtain ⟨g, s⟩ := w
      have hs := sgnF_size e
      rw [e] at h1
      simp
      refine ⟨by omega, hK (row.length - (a + s)) _ _ (by omega) ⟨a + s, acc ++ [(a, some g)], some (.tup [.int g, .int ((a : Int) + (s : Int))]), rfl, by omega, by simp; omega, by simp, by simp, ?_⟩⟩
      rw [← h1]
      simp
      exact splP_fuel _ _ _ _ _ (by omega) (by omega)
  · have hd : (decide (a < row.length)) = false := by simpa using c
    simp [hd, c]
    rw [e_varF (p := p) rfl mem_ss, Mem.del_set hp]
    rw [show row.length - a = 0 by omega] at h1
    simp [splP] at h1
    rw [h1]
    exact h
def spillP (t : Tab) (row : Row) : List (Option Int) := (splP t row row.length 0).map (·.2)
def s_spill (C : Addr) : DSp := fun ds M q _ => ∃ t row, ds = [codeD C t, cellsD row] ∧ t.length ≤ sizeLine ∧ row.length < sizeLine ∧ q (.lst ((spillP t row).map optI)) M
theorem splP_len (t : Tab) (row : Row) : ∀ n a, (splP t row n a).length ≤ n
  | 0, _ => Nat.le_refl _
  | n + 1, a => by
    rw [splP]
    split
    · split
      · simp; exact splP_len t row n _
      · simp; exact splP_len t row n _
    · simp
theorem ok_spill (C : Addr) : Okk (W_spill (s_spilt C)) (s_spill C) 2 4 := by
  rintro ds M q ex hl ⟨t, row, rfl, hz, hr, h⟩
  simp [W_spill, startD]
  refine ⟨t, row, rfl, hz, hr, ?_⟩
  simp
  refine lc_map (l := splP t row row.length 0) (e := fun p => .tup [.int (p.1 : Int), optI p.2]) (fun p => optI p.2) (fun _ _ _ => trivial) (fun p hp a m acc Qc h => ?_) (Nat.le_trans (splP_len _ _ _ _) (Nat.le_of_lt hr)) ?_
  · simpa using h
  · rw [spillP, List.map_map] at h; exact h
def isEndP (t : Tab) (s : St4) : Bool := s.2.2.2 && decide (s.1 = []) && decide (spillP t s.2.1 = spillP t s.2.2.1)
def s_is_end (C : Addr) : DSp := fun ds M q _ => ∃ t s, ds = [codeD C t, stateD s] ∧ t.length ≤ sizeLine ∧ s.2.1.length < sizeLine ∧ s.2.2.1.length < sizeLine ∧ q (.bl (isEndP t s)) M
theorem eqbs_optI (a b : List (Option Int)) : eqbs (a.map optI) (b.map optI) = decide (a = b) := eqbs_map (fun _ _ => eqb_optI) a b
theorem cok_optIs {l : List (Option Int)} : (D.lst (l.map optI)).cok = true := Ck.cok (n := 1) (Ck.lst fun d m => by obtain ⟨i, _, rfl⟩ := List.mem_map.mp m; exact ck_optI) (by decide)
theorem ok_is_end (C : Addr) : Okk (W_is_end (s_spill C)) (s_is_end C) 2 6 := by
  rintro ds M q ex hl ⟨t, ⟨rs, left, right, u⟩, rfl, hz, h1, h2, h⟩
  simp only at h1 h2
  simp only [isEndP] at h
  simp [W_is_end, startD, stateD_mk]
  cases u with
  | false => simpa using h
  | true =>
    by_cases c : rs = []
    · simp [c] at h ⊢
      refine ⟨t, left, rfl, hz, h1, ?_⟩
      simp
      refine ⟨t, right, rfl, hz, h2, ?_⟩
      simp [cok_optIs, eqbs_optI]
      exact h
    · simp [c] at h ⊢
      exact h
end DL
namespace DL
open PySem PySem.Spec L2
/-! ### shows_apart -/
theorem key_state (s : St4) : D.key (stateD s) = some (.tup [.tup (s.1.map NestedKey.num), .tup (s.2.1.map NestedKey.num), .tup (s.2.2.1.map NestedKey.num), .num (if s.2.2.2 then 1 else 0)]) := by
  have h1 := key_row s.1
  have h2 := key_row s.2.1
  have h3 := key_row s.2.2.1
  simp only [stateD, D.key, D.keys] at *
  rw [h1, h2, h3]
@[simp] theorem dkey_state {s : St4} : dkey true (stateD s) := ⟨_, key_state s, by simp [NestedKey.depth, NestedKey.depthAll, kdepth_nums]⟩
@[simp] theorem kEq_state {a b : St4} : kEq (stateD a) (stateD b) = decide (a = b) := by
  unfold kEq
  rw [key_state, key_state]
  congr 1
  simp only [Option.some.injEq, NestedKey.tup.injEq, List.cons.injEq, NestedKey.num.injEq, eq_iff_iff]
  constructor
  · rintro ⟨h1, h2, h3, h4, _⟩
    obtain ⟨a1, a2, a3, a4⟩ := a
    obtain ⟨b1, b2, b3, b4⟩ := b
    simp only at h1 h2 h3 h4
    rw [nums_inj h1, nums_inj h2, nums_inj h3]
    cases a4 <;> cases b4 <;> simp_all
  · rintro rfl; simp
theorem ck_state {s : St4} {n : Nat} : (stateD s).Ck (n + 2) := Ck.tup fun d m => by
  simp at m
  rcases m with rfl | rfl | rfl | rfl
  · exact Ck.ints
  · exact Ck.ints
  · exact Ck.ints
  · exact Ck.bl
@[simp] theorem cok_state {s : St4} : (stateD s).cok = true := Ck.cok (n := 2) ck_state (by decide)
@[simp] theorem eqb_state {a b : St4} : (stateD a).eqb (stateD b) = decide (a = b) := by
  obtain ⟨a1, a2, a3, a4⟩ := a
  obtain ⟨b1, b2, b3, b4⟩ := b
  simp [stateD_mk]
  by_cases h1 : a1 = b1 <;> by_cases h2 : a2 = b2 <;> by_cases h3 : a3 = b3 <;> by_cases h4 : a4 = b4 <;> simp_all
abbrev kvS (ks : List St4) : List (D × D) := ks.map fun s => (stateD s, .bl true)
theorem dget_kv (ks : List St4) (s : St4) : (dget (kvS ks) (stateD s)).isSome = decide (s ∈ ks) := by
  rw [dget_map, Option.isSome_map, Bool.eq_iff_iff, List.find?_isSome]
  simp
theorem dput_kv {ks : List St4} {s : St4} (h : s ∉ ks) : dput (kvS ks) (stateD s) (.bl true) = kvS (ks ++ [s]) := by
  unfold dput
  rw [if_neg]
  · simp
  · simpa using h
def nextS (t one : Tab) (s : St4) : List St4 := (nextP t one s).map (·.1)
def firstS : St4 := ([], [], [], false)
inductive Reach (t one : Tab) : St4 → Prop
  | first : Reach t one firstS
  | step {s s' : St4} : Reach t one s → s' ∈ nextS t one s → Reach t one s'
def inL (L : List D) (s : St4) : Bool := L.any fun z => z.eqb (stateD s)
/-- a finite world in which the search stays -/
structure Uni (t one : Tab) (U : List St4) : Prop where
  first : firstS ∈ U
  next : ∀ s ∈ U, ∀ s' ∈ nextS t one s, s' ∈ U
  len : U.length ≤ 1000000
  sm : ∀ s ∈ U, Sm one s
  al : ∀ s ∈ U, s.2.2.2 = false → ∀ p ∈ one, setP' t (s.2.1 ++ p.2) (s.2.2.1 ++ p.2) ≠ none
  tl : t.length ≤ 1000
theorem Uni.reach {t one : Tab} {U : List St4} (u : Uni t one U) {s : St4} (h : Reach t one s) : s ∈ U := by
  induction h with
  | first => exact u.first
  | step _ m ih => exact u.next _ ih _ m
def goodS (t : Tab) (L : List D) (s : St4) : Prop := inL L s = true ∧ isEndP t s = false
theorem nodup_len {α : Type} [DecidableEq α] : ∀ {l U : List α}, l.Nodup → (∀ x ∈ l, x ∈ U) → l.length ≤ U.length
  | [], _, _, _ => Nat.zero_le _
  | x :: l, U, h, hs => by
    rw [List.nodup_cons] at h
    have hx : x ∈ U := hs x (by simp)
    have : l.length ≤ (U.erase x).length := nodup_len h.2 fun y hy => (List.mem_erase_of_ne (fun e => h.1 (by rw [← e]; exact hy))).mpr (hs y (by simp [hy]))
    rw [List.length_erase_of_mem hx] at this
    have : 0 < U.length := List.length_pos_of_mem hx
    simp
    omega
theorem in_dct {neg : Bool} {x : D} {p : Addr} {n : Bool} {kvs : List (D × D)} {M : Mem} {Q : QE} (h : M p = some (.dct n kvs)) : rIn neg x (.ptr p) M Q = (dkey n x ∧ Q (.bl (if neg then !(dget kvs x).isSome else (dget kvs x).isSome)) M) := by
  unfold rIn rInD
  rw [dc_ptrD h]
theorem in_lst {neg : Bool} {x : D} {ds : List D} {M : Mem} {Q : QE} : rIn neg x (.lst ds) M Q = (((dv M x).cok = true ∧ (D.lst ds).cok = true) ∧ Q (.bl (if neg then !ds.any (fun z => z.eqb (dv M x)) else ds.any (fun z => z.eqb (dv M x)))) M) := id rfl
theorem put_dct {p : Addr} {i v : D} {M : Mem} {Q : Mem → Prop} {n : Bool} {kvs : List (D × D)} (h : M p = some (.dct n kvs)) : putItem (.ptr p) i v M Q = (dkey n i ∧ kvs.length < sizeLine ∧ Q (M.set p (.dct n (dput kvs i v)))) := by
  unfold putItem
  simp only [h]
theorem pop_set {p : Addr} {xs : List D} {d : D} {M : Mem} {Q : QE} : rPopD (.ptr p) [] (M.set p (.lst (xs ++ [d]))) Q = Q d (M.set p (.lst xs)) := by
  simp [rPopD]
@[simp] theorem eqbs_r {xs : List D} : eqbs xs [] = xs.isEmpty := by cases xs <;> rfl
@[simp] theorem dv_state {M : Mem} {s : St4} : dv M (stateD s) = stateD s := id rfl
theorem cok_states {l : List St4} : (D.lst (l.map stateD)).cok = true := Ck.cok (n := 3) (Ck.lst fun d m => by obtain ⟨i, _, rfl⟩ := List.mem_map.mp m; exact ck_state) (by decide)
/-- what the search holds -/
structure Sea (t one : Tab) (L : List D) (U ks todo : List St4) : Prop where
  nd : ks.Nodup
  sub : ∀ s ∈ ks, s ∈ U
  tl : todo.length ≤ ks.length
  ts : ∀ s ∈ todo, s ∈ ks
  first : firstS ∈ ks
  re : ∀ s ∈ ks, Reach t one s
  done : ∀ s ∈ ks, s ∉ todo → goodS t L s ∧ ∀ s' ∈ nextS t one s, s' ∈ ks
def s_shows_apart (C : Addr) : DSp := fun ds M q _ => ∃ t one L U, ds = [codeD C one, codeD C t, .lst L] ∧ (D.lst L).cok = true ∧ Uni t one U ∧ ∀ b : Bool, (b = true ↔ ∀ s, Reach t one s → goodS t L s) → q (.bl b) M
theorem stateD_inj {a b : St4} (h : stateD a = stateD b) : a = b := by
  have := kEq_state (a := a) (b := b)
  rw [h] at this
  simpa using this
theorem ok_shows_apart (C : Addr) : Okk (W_shows_apart (s_next_steps C) (s_is_end C)) (s_shows_apart C) 3 7 := by
  rintro ds M q ex hl ⟨t, one, L, U, rfl, hL, u, h⟩
  have hsz := sz_small
  have hu := u.len
  have e0 : c_FIRST_STATE = stateD firstS := rfl
  simp [W_shows_apart, startD, e0]
  intro kd hkd td htd
  have hne : kd ≠ td := fun e => by rw [e, Mem.set_same] at htd; cases htd
  have htd0 : M td = none := by rw [Mem.set_ne hne.symm] at htd; exact htd
  have hsub : ∀ c1 c2, SubM M ((M.set kd c1).set td c2) := fun c1 c2 => (SubM.set hkd).trans (SubM.set (by rw [Mem.set_ne hne.symm]; exact htd0))
  have gk : ∀ c1 c2, ((M.set kd c1).set td c2) kd = some c1 := fun c1 c2 => by rw [Mem.set_ne hne, Mem.set_same]
  refine whl_inv (fun n ρ M' => ∃ (ks todo : List St4) (x5 x6 : Option D), n = 2 * (U.length - ks.length) + todo.length ∧ Sea t one L U ks todo ∧ M' = (M.set kd (.dct true (kvS ks))).set td (.lst (todo.map stateD)) ∧
    ρ = [some (codeD C one), some (codeD C t), some (.lst L), some (.ptr kd), some (.ptr td), x5, x6]) (n := 2 * (U.length - 1) + 1) ⟨[firstS], [firstS], none, none, by simp, ?_, by simp, rfl⟩ ?_
  · exact ⟨by simp, fun s hs => by simp at hs; rw [hs]; exact u.first, Nat.le_refl _, fun s hs => hs, by simp, fun s hs => by simp at hs; rw [hs]; exact .first, fun s h1 h2 => absurd h1 h2⟩
  · rintro n ρ M' K ⟨ks, todo, x5, x6, rfl, S, rfl, rfl⟩ hK
    cases htodo : todo with
    | nil =>
      subst htodo
      simp
      refine ⟨M, hsub _ _, h true ?_⟩
      simp only [true_iff]
      intro s hs
      have hk : s ∈ ks := by
        induction hs with
        | first => exact S.first
        | step _ m ih => exact (S.done _ ih (by simp)).2 _ m
      exact (S.done _ hk (by simp)).1
    | cons s0 todo0 =>
      rw [← htodo]
      have hne0 : todo ≠ [] := by rw [htodo]; simp
      obtain ⟨todo1, s, e⟩ : ∃ l a, todo = l ++ [a] := ⟨todo.dropLast, todo.getLast hne0, (List.dropLast_concat_getLast hne0).symm⟩
      clear htodo hne0
      subst e
      have hsk : s ∈ ks := S.ts s (by simp)
      have hsR := S.re s hsk
      have hsU := S.sub s hsk
      have hlk := nodup_len S.nd S.sub
      have cs := cok_states (l := todo1 ++ [s])
      rw [List.map_append] at cs
      simp only [List.map_cons, List.map_nil] at cs
      obtain ⟨sm1, sm2, sm3, sm4, sm5⟩ := u.sm s hsU
      simp [cs, pop_set, in_lst, hL]
      have hin : (∀ x : D, x ∈ L → x.eqb (stateD s) = false) ↔ ¬ inL L s = true := by simp [inL]
      have bad : ¬ goodS t L s → q (.bl false) M := fun hg => h false (by simp only [Bool.false_eq_true, false_iff]; exact fun z => hg (z s hsR))
      by_cases h1 : inL L s = true
      · rw [if_neg (fun z => (hin.mp z) h1)]
        refine ⟨t, s, rfl, by have := u.tl; omega, by omega, by omega, ?_⟩
        simp
        by_cases h2 : isEndP t s = true
        · rw [if_pos h2]
          exact ⟨M, hsub _ _, bad fun z => by rw [z.2] at h2; cases h2⟩
        · rw [if_neg h2]
          refine ⟨t, one, s, rfl, u.tl, u.sm s hsU, u.al s hsU, ?_⟩
          simp
          refine forL_inv (fun ds ρ M' => ∃ (ks' todo' : List St4) (r : List Stp) (x6 : Option D), ds = r.map stepD ∧ ks'.Nodup ∧ (∀ s ∈ ks', s ∈ U) ∧ (∀ s ∈ todo', s ∈ ks') ∧ firstS ∈ ks' ∧ (∀ s ∈ ks', Reach t one s) ∧ (∀ x ∈ ks, x ∈ ks') ∧
            todo'.length + ks.length = todo1.length + ks'.length ∧ (∀ x ∈ ks', x ∉ todo' → x ≠ s → goodS t L x ∧ ∀ s' ∈ nextS t one x, s' ∈ ks') ∧ (∀ z ∈ nextP t one s, z ∈ r ∨ z.1 ∈ ks') ∧ (∀ z ∈ r, z ∈ nextP t one s) ∧
            M' = (M.set kd (.dct true (kvS ks'))).set td (.lst (todo'.map stateD)) ∧ ρ = [some (codeD C one), some (codeD C t), some (.lst L), some (.ptr kd), some (.ptr td), some (stateD s), x6]) (fun _ _ _ _ => trivial) ?_ ?_ _ _ _
            ⟨ks, todo1, nextP t one s, x6, rfl, S.nd, S.sub, fun x hx => S.ts x (by simp [hx]), S.first, S.re, fun x hx => hx, rfl, fun x hx h3 h4 => S.done x hx (by simp [h3, h4]), fun z hz => .inl hz, fun z hz => hz, rfl, rfl⟩
          · rintro ρ M' ⟨ks', todo', r, x6, e, n1, n2, n3, n4, n5, n6, n7, n8, n9, n10, rfl, rfl⟩
            cases r with
            | cons z r => cases e
            | nil =>
              have hk' := nodup_len n1 n2
              have hkk : ks.length ≤ ks'.length := nodup_len S.nd n6
              have hst := S.tl
              simp at hst
              refine hK (2 * (U.length - ks'.length) + todo'.length) _ _ (by simp; omega) ⟨ks', todo', _, x6, rfl, ⟨n1, n2, by omega, n3, n4, n5, fun x hx hn => ?_⟩, rfl, rfl⟩
              by_cases hxs : x = s
              · subst hxs
                refine ⟨⟨h1, by simpa using h2⟩, fun s' hs' => ?_⟩
                obtain ⟨z, hz, rfl⟩ := List.mem_map.mp hs'
                rcases n9 z hz with q | q
                · cases q
                · exact q
              · exact n8 x hx hn hxs
          · rintro d ds ρ M' K2 ⟨ks', todo', r, x6, e, n1, n2, n3, n4, n5, n6, n7, n8, n9, n10, rfl, rfl⟩ hK2
            cases r with
            | nil => cases e
            | cons z r =>
              cases e
              have hk' := nodup_len n1 n2
              have hst := S.tl
              simp at hst
              have hzr : Reach t one z.1 := .step hsR (List.mem_map.mpr ⟨z, n10 z (by simp), rfl⟩)
              have hzU := u.reach hzr
              have comm : ∀ c1 c2 c3, ((M.set kd c1).set td c2).set kd c3 = (M.set kd c3).set td c2 := fun c1 c2 c3 => by rw [← Mem.set_comm hne, Mem.set_set]
              simp [in_dct (gk _ _), dget_kv, put_dct (gk _ _), comm]
              by_cases c : z.1 ∈ ks'
              · rw [if_pos c]
                refine hK2 _ _ ⟨ks', todo', r, _, rfl, n1, n2, n3, n4, n5, n6, n7, n8, fun y hy => ?_, fun y hy => n10 y (by simp [hy]), rfl, rfl⟩
                rcases n9 y hy with q | q
                · rcases List.mem_cons.mp q with rfl | q
                  · exact .inr c
                  · exact .inl q
                · exact .inr q
              · rw [if_neg c]
                refine ⟨by omega, by omega, ?_⟩
                refine hK2 _ _ ⟨ks' ++ [z.1], todo' ++ [z.1], r, some (stepD z), rfl, ?_, ?_, ?_, by simp [n4], ?_, fun x hx => by simp [n6 x hx], by simp; omega, ?_, fun y hy => ?_, fun y hy => n10 y (by simp [hy]), ?_, ?_⟩
                · rw [List.nodup_append]
                  refine ⟨n1, by simp, fun a ha b hb => ?_⟩
                  simp at hb
                  subst hb
                  exact fun e => c (by rw [← e]; exact ha)
                · intro x hx
                  rcases List.mem_append.mp hx with hx | hx
                  · exact n2 x hx
                  · simp at hx; rw [hx]; exact hzU
                · intro x hx
                  rcases List.mem_append.mp hx with hx | hx
                  · simp [n3 x hx]
                  · simp at hx; simp [hx]
                · intro x hx
                  rcases List.mem_append.mp hx with hx | hx
                  · exact n5 x hx
                  · simp at hx; rw [hx]; exact hzr
                · intro x hx hn hxs
                  simp at hn
                  rcases List.mem_append.mp hx with hx | hx
                  · obtain ⟨g1, g2⟩ := n8 x hx hn.1 hxs
                    exact ⟨g1, fun s' hs' => by simp [g2 s' hs']⟩
                  · simp at hx; exact absurd hx hn.2
                · rcases n9 y hy with q | q
                  · rcases List.mem_cons.mp q with rfl | q
                    · exact .inr (by simp)
                    · exact .inl q
                  · exact .inr (by simp [q])
                · rw [dput_kv c]; simp
                · simp
      · rw [if_pos (hin.mpr h1)]
        exact ⟨M, hsub _ _, bad fun z => h1 z.1⟩
end DL
namespace DL
open PySem PySem.Spec L2
/-! ### a code is made -/
def apartW (u v : Row) : Prop := u.take (min u.length v.length) ≠ v.take (min u.length v.length)
def s_at_odds : DSp := fun ds M q _ => ∃ a b : Int × Row, ds = [pairD a, pairD b] ∧ a.1 ≠ b.1 ∧ apartW a.2 b.2 ∧ q .non M
theorem ok_at_odds : Okk W_at_odds s_at_odds 2 3 := by
  rintro ds M q ex hl ⟨⟨g, u⟩, ⟨g', v⟩, rfl, h1, h2, h⟩
  simp only at h1 h2
  unfold apartW at h2
  simp [W_at_odds, startD, h1, cut_to, ← List.map_take, h2, h]
/-- signs told apart, no word begins another one -/
def GoodT (t : Tab) : Prop := t.Pairwise fun a b => a.1 ≠ b.1 ∧ apartW a.2 b.2
theorem apartW.symm {u v : Row} (h : apartW u v) : apartW v u := fun e => h (by rw [Nat.min_comm] at e; exact e.symm)
theorem GoodT.perm {t t' : Tab} (h : GoodT t) (p : t'.Perm t) : GoodT t' := List.Perm.pairwise p.symm h fun ⟨a, b⟩ => ⟨Ne.symm a, b.symm⟩
theorem GoodT.at {t : Tab} (h : GoodT t) {i j : Nat} {a b : Int × Row} (hi : t[i]? = some a) (hj : t[j]? = some b) (hij : i < j) : a.1 ≠ b.1 ∧ apartW a.2 b.2 := by
  obtain ⟨h1, e1⟩ := List.getElem?_eq_some_iff.mp hi
  obtain ⟨h2, e2⟩ := List.getElem?_eq_some_iff.mp hj
  have := List.pairwise_iff_getElem.mp h i j h1 h2 hij
  rw [e1, e2] at this
  exact this
def s_fault : DSp := fun ds M q _ => ∃ t : Tab, ds = [tabD t] ∧ GoodT t ∧ t.length ≤ 1000 ∧ q .non M
theorem ok_fault : Okk (W_fault s_at_odds) s_fault 1 4 := by
  rintro ds M q ex hl ⟨t, rfl, hg, hz, h⟩
  simp [W_fault, startD]
  refine ⟨by omega, ?_⟩
  refine forL_inv (fun ds ρ M' => M' = M ∧ ∃ (j n : Nat) (x1 x2 x3 : Option D), ds = intsD (j : Int) n ∧ j + n = t.length ∧ ρ = [some (tabD t), x1, x2, x3]) (fun _ _ _ _ => trivial) ?_ ?_ _ _ _ ⟨rfl, 0, t.length, none, none, none, by simp, by omega, rfl⟩
  · rintro ρ M' ⟨rfl, j, n, x1, x2, x3, e, h1, rfl⟩
    simpa using h
  · rintro d ds ρ M' K ⟨rfl, j, n, x1, x2, x3, e, h1, rfl⟩ hK
    cases n with
    | zero => rw [intsD_zero] at e; cases e
    | succ n =>
      rw [intsD_succ] at e
      cases e
      simp
      refine ⟨by omega, ?_⟩
      refine forL_inv (fun ds ρ M2 => M2 = M' ∧ ∃ (i m : Nat) (x2 x3 : Option D), ds = intsD (i : Int) m ∧ i + m = j ∧ ρ = [some (tabD t), some (.int (j : Int)), x2, x3]) (fun _ _ _ _ => trivial) ?_ ?_ _ _ _ ⟨rfl, 0, j, x2, x3, by simp, by omega, rfl⟩
      · rintro ρ M2 ⟨rfl, i, m, y2, y3, e2, h2, rfl⟩
        exact hK _ _ ⟨rfl, j + 1, n, _, y2, y3, by simp, by omega, rfl⟩
      · rintro d ds ρ M2 K2 ⟨rfl, i, m, y2, y3, e2, h2, rfl⟩ hK2
        cases m with
        | zero => rw [intsD_zero] at e2; cases e2
        | succ m =>
          rw [intsD_succ] at e2
          cases e2
          obtain ⟨a, ha⟩ : ∃ a, t[i]? = some a := ⟨_, List.getElem?_eq_getElem (by omega)⟩
          obtain ⟨b, hb⟩ : ∃ b, t[j]? = some b := ⟨_, List.getElem?_eq_getElem (by omega)⟩
          obtain ⟨g1, g2⟩ := hg.at ha hb (by omega)
          simp [ha, hb]
          refine ⟨a, b, rfl, g1, g2, ?_⟩
          simp
          exact hK2 _ _ ⟨rfl, i + 1, m, _, _, by simp, by omega, rfl⟩
def srtT (t : Tab) : Tab := t.mergeSort fun a b => !rowLt b.2 a.2
theorem srtT_perm (t : Tab) : (srtT t).Perm t := List.mergeSort_perm _ _
theorem sortBy_tab (t : Tab) : sortBy 1 (t.map pairD) = (srtT t).map pairD := by
  unfold sortBy srtT
  rw [List.map_mergeSort]
  intro a _ b _
  rfl
theorem nols_ints : ∀ l : List Int, D.nols (l.map D.int) = true
  | [] => rfl
  | i :: l => by simp [D.nols, D.nol, nols_ints l]
theorem srtBy_tab {t : Tab} (h : ∀ p ∈ t, p.2 ≠ []) (hz : ∀ p ∈ t, p.2.length ≤ 1000) : SrtBy 1 (t.map pairD) := by
  have hk : (t.map pairD).map (keyD 1) = t.map fun p => rowD p.2 := by
    rw [List.map_map]; apply List.map_congr_left; intro p _; simp [keyD, ixD]
  refine ⟨fun d m => ?_, ⟨⟨?_, ?_, ?_⟩, ?_⟩, ?_⟩
  · obtain ⟨p, _, rfl⟩ := List.mem_map.mp m
    exact ⟨_, rfl, by simp, by simp⟩
  · rw [hk, pls_all, List.all_eq_true]
    intro d m
    obtain ⟨p, _, rfl⟩ := List.mem_map.mp m
    exact pl_row p.2
  · rw [hk, pys_map]
    intro d m d' m'
    obtain ⟨e, m1, rfl⟩ := List.mem_map.mp m
    obtain ⟨e', m1', rfl⟩ := List.mem_map.mp m'
    obtain ⟨p, _, rfl⟩ := List.mem_map.mp m1
    obtain ⟨p', _, rfl⟩ := List.mem_map.mp m1'
    exact alike_rows _ _
  · rw [hk, pys_map]
    refine .inl fun d m => ?_
    obtain ⟨e, m1, rfl⟩ := List.mem_map.mp m
    obtain ⟨p, hp, rfl⟩ := List.mem_map.mp m1
    obtain ⟨x, r, e⟩ := List.exists_cons_of_ne_nil (h p hp)
    rw [e]
    exact ⟨_, _, by simp [D.py, D.pys]; exact ⟨rfl, rfl⟩⟩
  · rw [hk]
    intro d m
    obtain ⟨p, _, rfl⟩ := List.mem_map.mp m
    exact Nat.le_trans (depth_row p.2) (by decide)
  · rw [hk]
    have : ∀ l : List (Int × Row), D.nols (l.map fun p => rowD p.2) = true := by
      intro l
      induction l with
      | nil => rfl
      | cons p l ih => simp [D.nols, D.nol, nols_ints, ih]
    exact this t
theorem e_lockF {i : Nat} {f : Str} {w : DWS} {k : DK} {ρ : Env'} {M : Mem} {x C d : Addr} {fs : List (Str × D)} {n : Bool} {kvs : List (D × D)} (h : ρ[i]? = some (some (.ptr x))) (h1 : M x = some (.ins C fs)) (h2 : fs.lookup f = some (.ptr d)) (h3 : M d = some (.dct n kvs)) :
    sLockF i f w k ρ M = w k ρ ((M.del d).set x (.ins C (putD f (.dct n kvs) fs))) := by
  simp [sLockF, h, h1, h2, h3]
def s_Code_init (C f : Addr) : DSp := fun ds M q _ => ∃ (p : Addr) (t : Tab), ds = [.ptr p, tabD t] ∧ M p = some (.ins C []) ∧ GoodT t ∧ (∀ p ∈ t, p.2 ≠ []) ∧ (∀ p ∈ t, p.2.length ≤ 1000) ∧ t.length ≤ 1000 ∧ q .non (M.set p (.ins C (codeF (srtT t))))
theorem lt1000 {n : Nat} (h : n ≤ 1000) : n < sizeLine := Nat.lt_of_le_of_lt h (by decide)
abbrev fs3 (t : Tab) (d1 d2 : Addr) : List (Str × D) := [("pairs", tabD t), ("words", .ptr d1), ("readings", .ptr d2)]
theorem fs3_w {t : Tab} {d1 d2 : Addr} : (fs3 t d1 d2).lookup ("words" : Str) = some (.ptr d1) := rfl
theorem fs3_r {t : Tab} {d1 d2 : Addr} : (fs3 t d1 d2).lookup ("readings" : Str) = some (.ptr d2) := rfl
theorem fs3_p {t : Tab} {d1 d2 : Addr} : (fs3 t d1 d2).lookup ("pairs" : Str) = some (tabD t) := rfl
theorem dput_fresh {kvs : List (D × D)} {k v : D} (h : ∀ x ∈ kvs, kEq x.1 k = false) : dput kvs k v = kvs ++ [(k, v)] := by
  unfold dput
  rw [if_neg]
  simp only [List.any_eq_true, not_exists, not_and, Bool.not_eq_true]
  exact h
theorem ok_Code_init (C f : Addr) : Okk (W_Code_init C f s_fault) (s_Code_init C f) 2 5 := by
  rintro ds M q ex hl ⟨p, t, rfl, hp, hg, hne, hsz, hz, h⟩
  have hsb := srtBy_tab hne hsz
  simp [W_Code_init, startD]
  refine ⟨t, rfl, hg, hz, ?_⟩
  have pw0 : ∀ v : D, putD (Str.ofString "pairs") v [] = [(Str.ofString "pairs", v)] := fun v => rfl
  have pw1 : ∀ v u : D, putD (Str.ofString "words") v [(Str.ofString "pairs", u)] = [(Str.ofString "pairs", u), (Str.ofString "words", v)] := fun v u => rfl
  have pw2 : ∀ v u w : D, putD (Str.ofString "readings") v [(Str.ofString "pairs", u), (Str.ofString "words", w)] = [(Str.ofString "pairs", u), (Str.ofString "words", w), (Str.ofString "readings", v)] := fun v u w => rfl
  simp [rSortBy, hp, hsb, sortBy_tab, pw0]
  intro d1 hd1
  have n1 : p ≠ d1 := fun e => by rw [← e, Mem.set_same] at hd1; cases hd1
  rw [Mem.set_ne n1.symm] at hd1
  simp [Mem.set_ne n1, pw1]
  intro d2 hd2
  have n2 : p ≠ d2 := fun e => by rw [← e, Mem.set_same] at hd2; cases hd2
  rw [Mem.set_ne n2.symm] at hd2
  have n3 : d1 ≠ d2 := fun e => by rw [← e, Mem.set_same] at hd2; cases hd2
  rw [Mem.set_ne n3.symm, Mem.set_ne n2.symm] at hd2
  simp [Mem.set_ne n2, pw2, in_ptr (p := p) mem_ss]
  have MM : ∃ MM : List (D × D) → List (D × D) → Mem, ∀ k1 k2, MM k1 k2 = ((M.set p (.ins C (fs3 (srtT t) d1 d2))).set d1 (.dct false k1)).set d2 (.dct true k2) := ⟨_, fun _ _ => rfl⟩
  obtain ⟨MM, hMM⟩ := MM
  have m1 : ∀ k1 k2, MM k1 k2 p = some (.ins C (fs3 (srtT t) d1 d2)) := fun k1 k2 => by rw [hMM, Mem.set_ne n2, Mem.set_ne n1, Mem.set_same]
  have m2 : ∀ k1 k2, MM k1 k2 d1 = some (.dct false k1) := fun k1 k2 => by rw [hMM, Mem.set_ne n3, Mem.set_same]
  have m3 : ∀ k1 k2, MM k1 k2 d2 = some (.dct true k2) := fun k1 k2 => by rw [hMM, Mem.set_same]
  have m4 : ∀ k1 k2 k, (MM k1 k2).set d1 (.dct false k) = MM k k2 := fun k1 k2 k => by rw [hMM, hMM, ← Mem.set_comm n3, Mem.set_set]
  have m5 : ∀ k1 k2 k, (MM k1 k2).set d2 (.dct true k) = MM k1 k := fun k1 k2 k => by rw [hMM, hMM, Mem.set_set]
  have e0 : (((((M.set p (.ins C [(Str.ofString "pairs", .lst ((srtT t).map pairD))])).set d1 (.dct false [])).set p (.ins C [(Str.ofString "pairs", .lst ((srtT t).map pairD)), (Str.ofString "words", .ptr d1)])).set d2 (.dct true [])).set p (.ins C [(Str.ofString "pairs", .lst ((srtT t).map pairD)), (Str.ofString "words", .ptr d1), (Str.ofString "readings", .ptr d2)])) = MM [] [] := by
    rw [hMM]
    funext a
    simp only [Mem.set]
    repeat' split
    all_goals simp_all
  rw [e0]
  clear e0 hl
  have gs : GoodT (srtT t) := hg.perm (srtT_perm t)
  have hzs : (srtT t).length ≤ 1000 := by rw [(srtT_perm t).length_eq]; exact hz
  refine forL_inv (fun ds ρ M' => ∃ (dn r : Tab) (x3 x4 : Option D), ds = r.map pairD ∧ dn ++ r = srtT t ∧ M' = MM (dn.map fun p => (.int p.1, rowD p.2)) (dn.map fun p => (rowD p.2, .int p.1)) ∧ ρ = [some (.ptr p), some (tabD t), some .non, x3, x4])
    (fun _ _ _ _ => trivial) ?_ ?_ _ _ _ ⟨[], srtT t, none, none, rfl, rfl, rfl, rfl⟩
  · rintro ρ M' ⟨dn, r, x3, x4, e, h1, rfl, rfl⟩
    cases r with
    | cons z r => cases e
    | nil =>
      rw [List.append_nil] at h1
      subst h1
      simp only
      rw [e_lockF (x := p) rfl (m1 _ _) fs3_r (m3 _ _)]
      rw [e_lockF (x := p) rfl mem_ss rfl (by rw [Mem.set_ne n1.symm, Mem.del_ne n3, m2])]
      simp only [e_nilS]
      have : ∀ A B : Cell, (((((MM ((srtT t).map fun p => (D.int p.1, rowD p.2)) ((srtT t).map fun p => (rowD p.2, D.int p.1))).del d2).set p A).del d1).set p B) = M.set p B := by
        intro A B
        rw [hMM]
        funext a
        simp only [Mem.set, Mem.del]
        repeat' split
        all_goals simp_all
      rw [this]
      exact h
  · rintro d ds ρ M' K ⟨dn, r, x3, x4, e, h1, rfl, rfl⟩ hK
    cases r with
    | nil => cases e
    | cons z r =>
      cases e
      have gz : ∀ x ∈ dn, x.1 ≠ z.1 ∧ x.2 ≠ z.2 := fun x hx => by
        rw [← h1] at gs
        have := (List.pairwise_append.mp gs).2.2 x hx z (by simp)
        exact ⟨this.1, fun e => this.2 (by rw [e])⟩
      have hdn : dn.length < 1000 := by have := congrArg List.length h1; simp at this; omega
      have f1 : dput (dn.map fun p => (D.int p.1, rowD p.2)) (.int z.1) (rowD z.2) = ((dn ++ [z]).map fun p => (D.int p.1, rowD p.2)) := by
        rw [dput_fresh]
        · simp
        · intro x hx
          obtain ⟨y, hy, rfl⟩ := List.mem_map.mp hx
          simpa using (gz y hy).1
      have f2 : dput (dn.map fun p => (rowD p.2, D.int p.1)) (rowD z.2) (.int z.1) = ((dn ++ [z]).map fun p => (rowD p.2, D.int p.1)) := by
        rw [dput_fresh]
        · simp
        · intro x hx
          obtain ⟨y, hy, rfl⟩ := List.mem_map.mp hx
          simpa using (gz y hy).2
      simp
      simp only [in_ptr (m1 _ _), fs3_w, true_and]
      rw [put_dct (m2 _ _)]
      refine ⟨trivial, by simp; exact lt1000 (by omega), ?_⟩
      rw [f1, m4]
      simp
      simp only [in_ptr (m1 _ _), fs3_r, true_and]
      rw [put_dct (m3 _ _)]
      refine ⟨by simp, by simp; exact lt1000 (by omega), ?_⟩
      rw [f2, m5]
      exact hK _ _ ⟨dn ++ [z], r, _, _, rfl, by rw [← h1]; simp, by simp, rfl⟩
end DL
namespace DL
open PySem PySem.Spec L2
/-! ### what the entry at a row's begin is -/
structure OkT (t : Tab) : Prop where
  good : GoodT t
  ne : ∀ p ∈ t, p.2 ≠ []
theorem apartW_iff {u v : Row} : apartW u v ↔ ¬ (u <+: v) ∧ ¬ (v <+: u) := by
  unfold apartW
  constructor
  · intro h
    refine ⟨fun ⟨w, e⟩ => h ?_, fun ⟨w, e⟩ => h ?_⟩
    · subst e; rw [Nat.min_eq_left (by simp)]; simp
    · subst e; rw [Nat.min_eq_right (by simp)]; simp
  · intro ⟨h1, h2⟩ e
    by_cases h : u.length ≤ v.length
    · rw [Nat.min_eq_left h, List.take_length] at e
      exact h1 (List.prefix_iff_eq_take.mpr e)
    · rw [Nat.min_eq_right (by omega), List.take_length] at e
      exact h2 (List.prefix_iff_eq_take.mpr e.symm)
theorem OkT.eq {t : Tab} (h : OkT t) {p q : Int × Row} (hp : p ∈ t) (hq : q ∈ t) (c : p.2 <+: q.2 ∨ q.2 <+: p.2) : p = q := by
  obtain ⟨i, hi⟩ := List.mem_iff_getElem?.mp hp
  obtain ⟨j, hj⟩ := List.mem_iff_getElem?.mp hq
  rcases Nat.lt_trichotomy i j with l | l | l
  · have := apartW_iff.mp (h.good.at hi hj l).2
    rcases c with c | c
    · exact absurd c this.1
    · exact absurd c this.2
  · subst l; rw [hi] at hj; exact Option.some.inj hj
  · have := apartW_iff.mp (h.good.at hj hi l).2
    rcases c with c | c
    · exact absurd c this.2
    · exact absurd c this.1
theorem OkT.one {t : Tab} (h : OkT t) {p q : Int × Row} {row : Row} (hp : p ∈ t) (hq : q ∈ t) (h1 : p.2 <+: row) (h2 : q.2 <+: row) : p = q :=
  h.eq hp hq (List.prefix_or_prefix_of_prefix h1 h2)
theorem OkT.perm {t t' : Tab} (h : OkT t) (p : t'.Perm t) : OkT t' := ⟨h.good.perm p, fun x hx => h.ne x (p.mem_iff.mp hx)⟩
theorem OkT.srt {t : Tab} (h : OkT t) : OkT (srtT t) := h.perm (srtT_perm t)
theorem mem_srt {t : Tab} {p : Int × Row} : p ∈ srtT t ↔ p ∈ t := (srtT_perm t).mem_iff
/-- what begins a row -/
inductive EntR (t : Tab) (row : Row) : Ent → Prop
  | word (p : Int × Row) : p ∈ t → p.2 <+: row → EntR t row (some (some p.1, p.2.length))
  | more (p : Int × Row) : (∀ p ∈ t, ¬ p.2 <+: row) → p ∈ t → row <+: p.2 → EntR t row none
  | lost : (∀ p ∈ t, ¬ p.2 <+: row) → (∀ p ∈ t, ¬ row <+: p.2) → EntR t row (some (none, 1))
theorem EntR.uniq {t : Tab} (h : OkT t) {row : Row} {e e' : Ent} (r : EntR t row e) (r' : EntR t row e') : e = e' := by
  cases r with
  | word p hp hr =>
    cases r' with
    | word p' hp' hr' => rw [h.one hp hp' hr hr']
    | more p' n _ _ => exact absurd hr (n p hp)
    | lost n _ => exact absurd hr (n p hp)
  | more p n hp hr =>
    cases r' with
    | word p' hp' hr' => exact absurd hr' (n p' hp')
    | more p' _ _ _ => rfl
    | lost _ m => exact absurd hr (m p hp)
  | lost n m =>
    cases r' with
    | word p' hp' hr' => exact absurd hr' (n p' hp')
    | more p' _ hp' hr' => exact absurd hr' (m p' hp')
    | lost _ _ => rfl
theorem EntR.perm {t t' : Tab} (h : ∀ p, p ∈ t ↔ p ∈ t') {row : Row} {e : Ent} (r : EntR t row e) : EntR t' row e := by
  cases r with
  | word p hp hr => exact .word p ((h p).mp hp) hr
  | more p n hp hr => exact .more p (fun p hp => n p ((h p).mpr hp)) ((h p).mp hp) hr
  | lost n m => exact .lost (fun p hp => n p ((h p).mpr hp)) fun p hp => m p ((h p).mpr hp)
theorem signOf_some {t : Tab} {w : Row} {g : Int} (h : signOf t w = some g) : ∃ p ∈ t, p.2 = w ∧ p.1 = g := by
  unfold signOf at h
  obtain ⟨p, hp, e⟩ := Option.map_eq_some_iff.mp h
  have := List.find?_some hp
  exact ⟨p, List.mem_of_find?_eq_some hp, by simpa using this, e⟩
theorem signOf_none {t : Tab} {w : Row} (h : signOf t w = none) : ∀ p ∈ t, p.2 ≠ w := by
  unfold signOf at h
  have := List.find?_eq_none.mp (Option.map_eq_none_iff.mp h)
  intro p hp e
  exact this p hp (by simpa using e)
/-- the sizes from s on, n of them -/
theorem entFrom_spec {t : Tab} (row : Row) : ∀ (n s : Nat), (∀ g k, entFrom t row n s = some (g, k) → ∃ p ∈ t, p.2 = row.take k ∧ p.1 = g ∧ s ≤ k ∧ k < s + n) ∧ (entFrom t row n s = none → ∀ k, s ≤ k → k < s + n → ∀ p ∈ t, p.2 ≠ row.take k)
  | 0, s => ⟨fun g k h => (by cases h), fun _ k h1 h2 => (by omega)⟩
  | n + 1, s => by
    obtain ⟨i1, i2⟩ := entFrom_spec (t := t) row n (s + 1)
    rw [entFrom]
    cases e : signOf t (row.take s) with
    | some g =>
      refine ⟨fun g' k h => ?_, fun h => by cases h⟩
      cases h
      obtain ⟨p, hp, h1, h2⟩ := signOf_some e
      exact ⟨p, hp, h1, h2, Nat.le_refl _, by omega⟩
    | none =>
      refine ⟨fun g' k h => ?_, fun h k h1 h2 => ?_⟩
      · obtain ⟨p, hp, h1, h2, h3, h4⟩ := i1 g' k h
        exact ⟨p, hp, h1, h2, by omega, by omega⟩
      · by_cases hk : k = s
        · subst hk; exact signOf_none e
        · exact i2 h k (by omega) (by omega)
theorem liveB_iff {t : Tab} {w : Row} : liveB t w = true ↔ ∃ p ∈ t, w.length < p.2.length ∧ w <+: p.2 := by
  unfold liveB
  simp only [List.any_eq_true, Bool.and_eq_true, decide_eq_true_eq]
  constructor
  · rintro ⟨p, hp, h1, h2⟩
    exact ⟨p, hp, h1, by rw [← h2]; exact List.take_prefix _ _⟩
  · rintro ⟨p, hp, h1, h2⟩
    exact ⟨p, hp, h1, (List.prefix_iff_eq_take.mp h2).symm⟩
theorem entP_spec {t : Tab} (h : OkT t) (row : Row) : EntR t row (entP t row) := by
  unfold entP
  obtain ⟨i1, i2⟩ := entFrom_spec (t := t) row row.length 1
  cases e : entFrom t row row.length 1 with
  | some w =>
    obtain ⟨g, k⟩ := w
    obtain ⟨p, hp, h1, h2, h3, h4⟩ := i1 g k e
    have hl : p.2.length = k := by rw [h1]; simp; omega
    simp only
    rw [← h2, ← hl]
    exact .word p hp (by rw [h1]; exact List.take_prefix _ _)
  | none =>
    have n1 : ∀ p ∈ t, ¬ p.2 <+: row := fun p hp hr => by
      have hl := List.length_pos_iff.mpr (h.ne p hp)
      have hle := hr.length_le
      exact i2 e p.2.length hl (by omega) p hp (List.prefix_iff_eq_take.mp hr)
    simp only
    split
    · next hl =>
      obtain ⟨p, hp, _, hr⟩ := liveB_iff.mp hl
      exact .more p n1 hp hr
    · next hl =>
      refine .lost n1 fun p hp hr => hl (liveB_iff.mpr ⟨p, hp, ?_, hr⟩)
      have := hr.length_le
      rcases Nat.lt_or_eq_of_le this with q | q
      · exact q
      · exact absurd (by rw [hr.eq_of_length q]; exact List.prefix_rfl) (n1 p hp)
theorem entP_srt {t : Tab} (h : OkT t) {row : Row} {e : Ent} (r : EntR t row e) : e = entP (srtT t) row :=
  EntR.uniq h r ((entP_spec h.srt row).perm fun _ => mem_srt)
/-! the entry at a place -/
inductive SgnR (t : Tab) (row : Row) : Option (Int × Nat) → Prop
  | word (p : Int × Row) : p ∈ t → p.2 <+: row → SgnR t row (some (p.1, p.2.length))
  | lost : (∀ p ∈ t, ¬ p.2 <+: row) → SgnR t row none
theorem SgnR.uniq {t : Tab} (h : OkT t) {row : Row} {e e' : Option (Int × Nat)} (r : SgnR t row e) (r' : SgnR t row e') : e = e' := by
  cases r with
  | word p hp hr =>
    cases r' with
    | word p' hp' hr' => rw [h.one hp hp' hr hr']
    | lost n => exact absurd hr (n p hp)
  | lost n =>
    cases r' with
    | word p' hp' hr' => exact absurd hr' (n p' hp')
    | lost _ => rfl
theorem SgnR.perm {t t' : Tab} (h : ∀ p, p ∈ t ↔ p ∈ t') {row : Row} {e : Option (Int × Nat)} (r : SgnR t row e) : SgnR t' row e := by
  cases r with
  | word p hp hr => exact .word p ((h p).mp hp) hr
  | lost n => exact .lost (fun p hp => n p ((h p).mpr hp))
theorem foldl_max_ge : ∀ (l : List Nat) (a : Nat), a ≤ l.foldl max a ∧ ∀ x ∈ l, x ≤ l.foldl max a
  | [], a => ⟨Nat.le_refl _, fun _ h => (by cases h)⟩
  | y :: l, a => by
    obtain ⟨h1, h2⟩ := foldl_max_ge l (max a y)
    simp only [List.foldl_cons]
    refine ⟨by omega, fun x hx => ?_⟩
    rcases List.mem_cons.mp hx with rfl | hx
    · omega
    · exact h2 x hx
theorem le_maxLen {t : Tab} {p : Int × Row} (hp : p ∈ t) : p.2.length ≤ maxLen t := (foldl_max_ge _ 0).2 _ (List.mem_map.mpr ⟨p, hp, rfl⟩)
theorem sgnF_spec {t : Tab} (h : OkT t) (row : Row) (a : Nat) : SgnR t (row.drop a) (sgnF t row a) := by
  unfold sgnF
  obtain ⟨i1, i2⟩ := entFrom_spec (t := t) (row.drop a) (min (maxLen t) (row.length - a)) 1
  cases e : entFrom t (row.drop a) (min (maxLen t) (row.length - a)) 1 with
  | some w =>
    obtain ⟨g, k⟩ := w
    obtain ⟨p, hp, h1, h2, h3, h4⟩ := i1 g k e
    have hl : p.2.length = k := by rw [h1]; simp; omega
    rw [← h2, ← hl]
    exact .word p hp (by rw [h1]; exact List.take_prefix _ _)
  | none =>
    refine .lost fun p hp hr => ?_
    have hl := List.length_pos_iff.mpr (h.ne p hp)
    have hle := hr.length_le
    have hm := le_maxLen hp
    simp at hle
    exact i2 e p.2.length hl (by omega) p hp (List.prefix_iff_eq_take.mp hr)
theorem sgnF_srt {t : Tab} (h : OkT t) {row : Row} {a : Nat} {e : Option (Int × Nat)} (r : SgnR t (row.drop a) e) : e = sgnF (srtT t) row a :=
  SgnR.uniq h r ((sgnF_spec h.srt row a).perm fun _ => mem_srt)
end DL
namespace DL
open PySem PySem.Spec L2
/-! ### the law's own functions -/
def wrdD : Option (Int × Nat) → D
  | none => .tup [.non, .int 1]
  | some (g, n) => .tup [.int g, .int (n : Int)]
@[simp] theorem wrdD_none : wrdD none = .tup [.non, .int 1] := rfl
@[simp] theorem wrdD_some {g : Int} {n : Nat} : wrdD (some (g, n)) = .tup [.int g, .int (n : Int)] := rfl
def s__law_word_at : DSp := fun ds M q _ => ∃ (t : Tab) (row : Row) (a : Nat), ds = [tabD t, cellsD row, .int (a : Int)] ∧ OkT t ∧ q (wrdD (sgnF (srtT t) row a)) M
theorem ok__law_word_at : Okk W__law_word_at s__law_word_at 3 5 := by
  rintro ds M q ex hl ⟨t, row, a, rfl, hk, h⟩
  simp [W__law_word_at, startD]
  refine forL_inv (fun ds ρ M' => M' = M ∧ ∃ (dn r : Tab) (x3 x4 : Option D), ds = r.map pairD ∧ dn ++ r = t ∧ (∀ p ∈ dn, ¬ p.2 <+: row.drop a) ∧ ρ = [some (tabD t), some (cellsD row), some (.int (a : Int)), x3, x4]) (fun _ _ _ _ => trivial) ?_ ?_ _ _ _ ⟨rfl, [], t, none, none, rfl, rfl, by simp, rfl⟩
  · rintro ρ M' ⟨rfl, dn, r, x3, x4, e, h1, h2, rfl⟩
    cases r with
    | cons z r => cases e
    | nil =>
      rw [List.append_nil] at h1
      subst h1
      rw [← sgnF_srt hk (.lost h2)] at h
      simpa using h
  · rintro d ds ρ M' K ⟨rfl, dn, r, x3, x4, e, h1, h2, rfl⟩ hK
    cases r with
    | nil => cases e
    | cons z r =>
      cases e
      simp [cut_ad, ← List.map_take, ← List.map_drop]
      by_cases c : (row.drop a).take z.2.length = z.2
      · rw [if_pos c]
        have hz : z ∈ t := by rw [← h1]; simp
        rw [← sgnF_srt hk (.word z hz (List.prefix_iff_eq_take.mpr c.symm))] at h
        exact h
      · rw [if_neg c]
        exact hK _ _ ⟨rfl, dn ++ [z], r, _, _, rfl, by rw [← h1]; simp, fun p hp => by
          rcases List.mem_append.mp hp with hp | hp
          · exact h2 p hp
          · simp at hp; subst hp; exact fun q => c (List.prefix_iff_eq_take.mp q).symm, rfl⟩
def s__law_entries : DSp := fun ds M q _ => ∃ (t : Tab) (row : Row), ds = [tabD t, cellsD row] ∧ OkT t ∧ row.length < sizeLine ∧ q (.lst ((spillP (srtT t) row).map optI)) M
theorem ok__law_entries : Okk (W__law_entries s__law_word_at) s__law_entries 2 6 := by
  rintro ds M q ex hl ⟨t, row, rfl, hk, hr, h⟩
  simp [W__law_entries, startD]
  intro p hp
  refine whl_inv (fun n ρ M' => ∃ (a : Nat) (acc : List (Option Int)) (x4 x5 : Option D), n = row.length - a ∧ a ≤ row.length ∧ acc.length ≤ a ∧ M' = M.set p (.lst (acc.map optI)) ∧
    ρ = [some (tabD t), some (cellsD row), some (.ptr p), some (.int (a : Int)), x4, x5] ∧ acc ++ (splP (srtT t) row (row.length - a) a).map (·.2) = spillP (srtT t) row) (n := row.length) ⟨0, [], none, none, by omega, by omega, by simp, by simp, rfl, by simp [spillP]⟩ ?_
  rintro n ρ M' K ⟨a, acc, x4, x5, rfl, ha, hacc, rfl, rfl, h1⟩ hK
  by_cases c : a < row.length
  · have hd : (decide (a < row.length)) = true := by simpa using c
    simp [hd, c]
    refine ⟨t, row, a, rfl, hk, ?_⟩
    obtain ⟨k, hk'⟩ : ∃ k, row.length - a = k + 1 := ⟨row.length - a - 1, by omega⟩
    rw [hk', splP, if_pos c] at h1
    cases e : sgnF (srtT t) row a with
    | none =>
      rw [e] at h1
      simp
      refine ⟨by omega, hK (row.length - (a + 1)) _ _ (by omega) ⟨a + 1, acc ++ [none], some .non, some (.int 1), rfl, by omega, by simp; omega, by simp, by simp, ?_⟩⟩
      rw [← h1]
      simp
      rw [splP_fuel (srtT t) row (row.length - (a + 1)) k (a + 1) (by omega) (by omega)]
    | some w =>
      obtain ⟨g, s⟩ := w
      have hs := sgnF_size e
      rw [e] at h1
      simp
      refine ⟨by omega, hK (row.length - (a + s)) _ _ (by omega) ⟨a + s, acc ++ [some g], some (.int g), some (.int (s : Int)), rfl, by omega, by simp; omega, by simp, by simp, ?_⟩⟩
      rw [← h1]
      simp
      rw [splP_fuel (srtT t) row (row.length - (a + s)) k (a + s) (by omega) (by omega)]
  · have hd : (decide (a < row.length)) = false := by simpa using c
    simp [hd, c]
    rw [e_varF (p := p) rfl mem_ss, Mem.del_set hp]
    rw [show row.length - a = 0 by omega] at h1
    simp [splP] at h1
    rw [h1]
    exact h
def s__law_end : DSp := fun ds M q _ => ∃ (t : Tab) (s : St4), ds = [tabD t, stateD s] ∧ OkT t ∧ s.2.1.length < sizeLine ∧ s.2.2.1.length < sizeLine ∧ q (.bl (isEndP (srtT t) s)) M
theorem ok__law_end : Okk (W__law_end s__law_entries) s__law_end 2 6 := by
  rintro ds M q ex hl ⟨t, ⟨rs, left, right, u⟩, rfl, hk, h1, h2, h⟩
  simp only at h1 h2
  simp only [isEndP] at h
  simp [W__law_end, startD, stateD_mk]
  cases u with
  | false => simpa using h
  | true =>
    by_cases c : rs = []
    · simp [c] at h ⊢
      refine ⟨t, left, rfl, hk, h1, ?_⟩
      simp
      refine ⟨t, right, rfl, hk, h2, ?_⟩
      simp [cok_optIs, eqbs_optI]
      exact h
    · simp [c] at h ⊢
      exact h
def s__law_begins : DSp := fun ds M q _ => ∃ (t : Tab) (row : Row), ds = [tabD t, rowD row] ∧ OkT t ∧ q (entD (entP (srtT t) row)) M
theorem ok__law_begins : Okk W__law_begins s__law_begins 2 4 := by
  rintro ds M q ex hl ⟨t, row, rfl, hk, h⟩
  simp [W__law_begins, startD]
  refine forL_inv (fun ds ρ M' => M' = M ∧ ∃ (dn r : Tab) (x3 x4 : Option D), ds = r.map pairD ∧ dn ++ r = t ∧ (∀ p ∈ dn, ¬ p.2 <+: row ∧ ¬ row <+: p.2) ∧ ρ = [some (tabD t), some (rowD row), x3, x4]) (fun _ _ _ _ => trivial) ?_ ?_ _ _ _ ⟨rfl, [], t, none, none, rfl, rfl, by simp, rfl⟩
  · rintro ρ M' ⟨rfl, dn, r, x3, x4, e, h1, h2, rfl⟩
    cases r with
    | cons z r => cases e
    | nil =>
      rw [List.append_nil] at h1
      subst h1
      rw [← entP_srt hk (.lost (fun p hp => (h2 p hp).1) fun p hp => (h2 p hp).2)] at h
      simpa using h
  · rintro d ds ρ M' K ⟨rfl, dn, r, x3, x4, e, h1, h2, rfl⟩ hK
    cases r with
    | nil => cases e
    | cons z r =>
      cases e
      have hz : z ∈ t := by rw [← h1]; simp
      simp [cut_to, ← List.map_take]
      by_cases c : row.take z.2.length = z.2
      · rw [if_pos c]
        rw [← entP_srt hk (.word z hz (List.prefix_iff_eq_take.mpr c.symm))] at h
        exact h
      · rw [if_neg c]
        have n1 : ¬ z.2 <+: row := fun q => c (List.prefix_iff_eq_take.mp q).symm
        by_cases c2 : row = z.2.take row.length
        · rw [if_pos c2]
          have hr : row <+: z.2 := List.prefix_iff_eq_take.mpr c2
          have : EntR t row none := .more z (fun p hp hq => by
            have := hk.eq hp hz (.inl (hq.trans hr))
            subst this
            exact n1 hq) hz hr
          rw [← entP_srt hk this] at h
          exact h
        · rw [if_neg c2]
          exact hK _ _ ⟨rfl, dn ++ [z], r, _, _, rfl, by rw [← h1]; simp, fun p hp => by
            rcases List.mem_append.mp hp with hp | hp
            · exact h2 p hp
            · simp at hp; subst hp; exact ⟨n1, fun q => c2 (List.prefix_iff_eq_take.mp q)⟩, rfl⟩
end DL
namespace DL
open PySem PySem.Spec L2
def s__law_settled : DSp := fun ds M q _ => ∃ (t : Tab) (l r : Row), ds = [tabD t, rowD l, rowD r] ∧ OkT t ∧ q (setD (setP' (srtT t) l r)) M
theorem ok__law_settled : Okk (W__law_settled s__law_begins) s__law_settled 3 5 := by
  rintro ds M q ex hl ⟨t, l, r, rfl, hz, h⟩
  unfold setP' at h
  simp [W__law_settled, startD]
  refine whl_inv (fun n ρ M' => M' = M ∧ ∃ l' r' x3 x4, n = l'.length ∧ ρ = [some (tabD t), some (rowD l'), some (rowD r'), x3, x4] ∧ setP (srtT t) (l.length + 1) l r = setP (srtT t) (n + 1) l' r') (n := l.length) ⟨rfl, l, r, none, none, rfl, rfl, rfl⟩ ?_
  rintro n ρ M' K ⟨rfl, l', r', x3, x4, rfl, rfl, h5⟩ hK
  rw [h5, setP] at h
  by_cases e : l' = []
  · simp [e] at h ⊢
    exact h
  · simp [e] at h ⊢
    refine ⟨t, l', rfl, hz, ?_⟩
    simp
    refine ⟨t, r', rfl, hz, ?_⟩
    cases hm : entP (srtT t) l' with
    | none => rw [hm] at h; simpa using h
    | some a =>
      obtain ⟨g, i⟩ := a
      cases ht : entP (srtT t) r' with
      | none => rw [hm, ht] at h; simpa using h
      | some b =>
        obtain ⟨g', i'⟩ := b
        rw [hm, ht] at h
        simp at h ⊢
        by_cases eq : g = g' ∧ i = i'
        · obtain ⟨rfl, rfl⟩ := eq
          simp [cut_from, ← List.map_drop]
          have hi := entP_ge hm
          have hp : 0 < l'.length := List.length_pos_iff.mpr e
          refine hK (l'.drop i).length _ _ (by simp; omega) ⟨rfl, l'.drop i, r'.drop i, _, _, rfl, rfl, ?_⟩
          rw [h5, setP]
          simp only [if_neg e, hm, ht, if_true]
          exact setP_fuel (srtT t) _ _ _ _ (by simp; omega) (by simp)
        · simp [eq] at h ⊢
          have hc : ¬ (g = g' ∧ (i : Int) = (i' : Int)) := fun z => eq ⟨z.1, by omega⟩
          rw [if_pos (Classical.not_and_iff_not_or_not.mp hc)]
          exact h
/-- the least, the greatest of two rows -/
def minR (a b : Row) : Row := if rowLt b a = true then b else a
def maxR (a b : Row) : Row := if rowLt a b = true then b else a
def besP (t : Tab) (x y : Row × Row) (u : Bool) : Option St4 :=
  match setP' t (x.2 ++ x.1.take (min x.1.length y.1.length)) (y.2 ++ y.1.take (min x.1.length y.1.length)) with
  | none => none
  | some (a, b) => if x.1.length > min x.1.length y.1.length then some (x.1.drop (min x.1.length y.1.length), a, b, u)
    else if y.1.length > min x.1.length y.1.length then some (y.1.drop (min x.1.length y.1.length), b, a, u)
    else some ([], minR a b, maxR a b, u)
def optS : Option St4 → D
  | none => .non
  | some s => stateD s
@[simp] theorem optS_none : optS none = .non := rfl
@[simp] theorem optS_some {s : St4} : optS (some s) = stateD s := rfl
theorem alk_rows (a b : Row) : Alk [rowD a, rowD b] := by
  refine ⟨by simp only [D.pls, Bool.and_true, Bool.and_eq_true]; exact ⟨pl_row a, pl_row b⟩, ⟨fun x hx y hy => ?_, fun x hx => ?_⟩, ?_⟩
  · simp [D.pys] at hx hy
    rcases hx with rfl | rfl <;> rcases hy with rfl | rfl <;> exact alike_rows _ _
  · simp [D.pys] at hx
    rcases hx with rfl | rfl <;> simp [D.py]
  · rw [hgs_py]
    refine Nat.le_trans (hgs_le (n := 1) fun d m => ?_) (by decide)
    simp at m
    rcases m with rfl | rfl <;> exact (Ck.ints (n := 0)).2
theorem best_rows {mx : Bool} {a b : Row} {M : Mem} {q : QE} (h : q (rowD (if mx then maxR a b else minR a b)) M) : rMM mx [.tup [rowD a, rowD b]] M q := by
  show rBest mx [.tup [rowD a, rowD b]] M q
  simp only [rBest, sq_tup]
  refine ⟨alk_rows a b, ?_⟩
  cases mx with
  | true =>
    simp only [if_true] at h ⊢
    have : maxDD (rowD a) [rowD b] = rowD (maxR a b) := by
      show (if (rowD a).ltb (rowD b) = true then rowD b else rowD a) = _
      unfold maxR rowLt
      split <;> rfl
    rw [this]; exact h
  | false =>
    simp only [Bool.false_eq_true, if_false] at h ⊢
    have : minDD (rowD a) [rowD b] = rowD (minR a b) := by
      show (if (rowD b).ltb (rowD a) = true then rowD b else rowD a) = _
      unfold minR rowLt
      split <;> rfl
    rw [this]; exact h
def s__law_beside : DSp := fun ds M q _ => ∃ (t : Tab) (x y : Row × Row) (u : Bool), ds = [tabD t, .tup [rowD x.1, rowD x.2], .tup [rowD y.1, rowD y.2], .bl u] ∧ OkT t ∧ x.1.length + x.2.length < sizeLine ∧ y.1.length + y.2.length < sizeLine ∧ q (optS (besP (srtT t) x y u)) M
theorem ok__law_beside : Okk (W__law_beside s__law_settled) s__law_beside 4 6 := by
  rintro ds M q ex hl ⟨t, ⟨xr, xl⟩, ⟨yr, yl⟩, u, rfl, hk, h1, h2, h⟩
  simp only at h1 h2
  generalize hm : min xr.length yr.length = m
  have m1 : m ≤ xr.length := by omega
  have m2 : m ≤ yr.length := by omega
  simp only [besP, hm] at h
  simp [W__law_beside, startD, hm, cut_to, ← List.map_take]
  refine ⟨by omega, by omega, t, xl ++ xr.take m, yl ++ yr.take m, by simp, hk, ?_⟩
  cases e : setP' (srtT t) (xl ++ xr.take m) (yl ++ yr.take m) with
  | none => rw [e] at h; simpa using h
  | some p =>
    obtain ⟨a, b⟩ := p
    rw [e] at h
    simp [cut_from, ← List.map_drop]
    simp only at h
    by_cases c1 : m < xr.length
    · rw [if_pos c1] at h ⊢
      exact h
    · rw [if_neg c1] at h ⊢
      by_cases c2 : m < yr.length
      · rw [if_pos c2] at h ⊢
        exact h
      · rw [if_neg c2] at h ⊢
        refine best_rows ?_
        simp
        refine best_rows ?_
        simp
        exact h
end DL
namespace DL
open PySem PySem.Spec L2
@[simp] theorem notN_state {s : St4} {M : Mem} {Q : QE} : rNotN (stateD s) .non M Q = Q (.bl true) M := id rfl
def nextOB (t one : Tab) (s : St4) (p : Int × Row) : List (Option St4) :=
  if s.2.2.2 = false then one.map fun r => besP t (p.2, s.2.1) (r.2, s.2.1) (!decide (r.1 = p.1))
  else if s.1 = [] then [some (p.2, s.2.1, s.2.2.1, true), some (p.2, s.2.2.1, s.2.1, true)]
  else [besP t (s.1, s.2.1) (p.2, s.2.2.1) true]
def nextL (t one : Tab) (s : St4) : List St4 := (one.flatMap (nextOB t one s)).filterMap id
theorem sz_mid : (2000000 : Nat) < sizeLine := by decide
def s__law_next : DSp := fun ds M q _ => ∃ (t one : Tab) (s : St4), ds = [tabD one, tabD t, stateD s] ∧ OkT t ∧ Sm one s ∧ q (.lst ((nextL (srtT t) one s).map stateD)) M
theorem ok__law_next : Okk (W__law_next s__law_beside) s__law_next 3 13 := by
  rintro ds M q ex hl ⟨t, one, ⟨rs, left, right, u⟩, rfl, hk, ⟨z1, z2, z3, z4, z5⟩, h⟩
  have hsz := sz_small
  simp only at z3 z4 z5
  simp [W__law_next, startD, stateD_mk]
  intro p hp
  refine forL_inv (fun ds ρ M' => ∃ (j : Nat) (l : Tab) (acc : List (Option St4)) (x8 x9 x10 x11 : Option D), ds = l.map pairD ∧ j + l.length = one.length ∧ (∀ r ∈ l, r ∈ one) ∧ acc.length ≤ 1002 * j ∧ M' = M.set p (.lst (acc.map optS)) ∧
      ρ = [some (tabD one), some (tabD t), some (stateD (rs, left, right, u)), some (rowD rs), some (rowD left), some (rowD right), some (.bl u), some (.ptr p), x8, x9, x10, x11, none] ∧ acc ++ l.flatMap (nextOB (srtT t) one (rs, left, right, u)) = one.flatMap (nextOB (srtT t) one (rs, left, right, u)))
      (fun _ _ _ _ => trivial) ?_ ?_ _ _ _ ⟨0, one, [], none, none, none, none, rfl, by omega, fun r hr => hr, by simp, by simp, rfl, by simp⟩
  · rintro ρ M' ⟨j, l, acc, x8, x9, x10, x11, e, h1, h2, h3, rfl, rfl, h4⟩
    cases l with
    | cons r l => cases e
    | nil =>
      simp at h4 h1
      simp
      refine lc_pure (l := acc) (e := optS) (fun o => o.map stateD) (fun p' ac hp' => ?_) (fun p' hp' a m ac Qc Qn k1 k2 => ?_) (by omega) ⟨M, SubM.set hp, ?_⟩
      · have : p ≠ p' := fun e => by rw [e, Mem.set_same] at hp'; cases hp'
        show ((M.set p _).set p' _) p = _
        rw [Mem.set_ne this, Mem.set_same]
      · cases a with
        | none => simpa using k2 rfl
        | some s => simpa using k1 _ rfl
      · have : (acc.filterMap fun o => o.map stateD) = (nextL (srtT t) one (rs, left, right, u)).map stateD := by
          rw [nextL, ← h4, List.map_filterMap]
          rfl
        rw [this]
        exact h
  · rintro d ds ρ M' K ⟨j, l, acc, x8, x9, x10, x11, e, h1, h2, h3, rfl, rfl, h4⟩ hK
    cases l with
    | nil => cases e
    | cons r l =>
      cases e
      have hr := h2 r (by simp)
      have zr := z2 r hr
      simp at h1
      have hja : acc.length ≤ 1002 * 1000 := Nat.le_trans h3 (Nat.mul_le_mul_left _ (by omega))
      cases u with
      | false =>
        simp
        refine forL_inv (fun ds ρ M' => ∃ (i : Nat) (l2 : Tab) (acc2 : List (Option St4)) (x10 x11 : Option D), ds = l2.map pairD ∧ i + l2.length = one.length ∧ (∀ r ∈ l2, r ∈ one) ∧ acc2.length ≤ 1002 * j + i ∧ M' = M.set p (.lst (acc2.map optS)) ∧
          ρ = [some (tabD one), some (tabD t), some (stateD (rs, left, right, false)), some (rowD rs), some (rowD left), some (rowD right), some (.bl false), some (.ptr p), some (.int r.1), some (rowD r.2), x10, x11, none] ∧
          acc2 ++ l2.map (fun r2 => besP (srtT t) (r.2, left) (r2.2, left) (!decide (r2.1 = r.1))) ++ l.flatMap (nextOB (srtT t) one (rs, left, right, false)) = one.flatMap (nextOB (srtT t) one (rs, left, right, false)))
          (fun _ _ _ _ => trivial) ?_ ?_ _ _ _ ⟨0, one, acc, x10, x11, rfl, by omega, fun r hr => hr, by omega, by simp, rfl, by rw [← h4]; simp [nextOB]⟩
        · rintro ρ M' ⟨i, l2, acc2, y10, y11, e, g1, g2, g3, rfl, rfl, g4⟩
          cases l2 with
          | cons r l => cases e
          | nil =>
            simp at g1
            exact hK _ _ ⟨j + 1, l, acc2, _, _, y10, y11, rfl, by omega, fun x hx => h2 x (by simp [hx]), by omega, rfl, rfl, by simpa using g4⟩
        · rintro d ds ρ M' K2 ⟨i, l2, acc2, y10, y11, e, g1, g2, g3, rfl, rfl, g4⟩ hK2
          cases l2 with
          | nil => cases e
          | cons r2 l2 =>
            cases e
            have hr2 := g2 r2 (by simp)
            have zr2 := z2 r2 hr2
            simp at g1
            have hja2 : acc2.length ≤ 1002 * 1000 + 1000 := by
              have : 1002 * j ≤ 1002 * 1000 := Nat.mul_le_mul_left _ (by omega)
              omega
            simp
            refine ⟨t, (r.2, left), (r2.2, left), !decide (r2.1 = r.1), by simp, hk, by simp; omega, by simp; omega, ?_⟩
            simp
            refine ⟨by omega, ?_⟩
            exact hK2 _ _ ⟨i + 1, l2, acc2 ++ [besP (srtT t) (r.2, left) (r2.2, left) (!decide (r2.1 = r.1))], _, _, rfl, by omega, fun x hx => g2 x (by simp [hx]), by simp; omega, by simp, rfl, by rw [← g4]; simp⟩
      | true =>
        simp
        by_cases c : rs = []
        · rw [if_pos c]
          refine ⟨by omega, by omega, hK _ _ ⟨j + 1, l, acc ++ [some (r.2, left, right, true), some (r.2, right, left, true)], _, _, _, _, rfl, by omega, fun x hx => h2 x (by simp [hx]), by simp; omega, by simp; rfl, rfl, ?_⟩⟩
          rw [← h4]
          simp [nextOB, c]
        · rw [if_neg c]
          refine ⟨t, (rs, left), (r.2, right), true, rfl, hk, by simp; omega, by simp; omega, ?_⟩
          simp
          refine ⟨by omega, hK _ _ ⟨j + 1, l, acc ++ [besP (srtT t) (rs, left) (r.2, right) true], _, _, _, _, rfl, by omega, fun x hx => h2 x (by simp [hx]), by simp; omega, by simp, rfl, ?_⟩⟩
          rw [← h4]
          simp [nextOB, c]
end DL
namespace DL
open PySem PySem.Spec L2
inductive RL (t one : Tab) : St4 → Prop
  | first : RL t one firstS
  | step {s s' : St4} : RL t one s → s' ∈ nextL t one s → RL t one s'
structure UniL (t one : Tab) (U : List St4) : Prop where
  first : firstS ∈ U
  next : ∀ s ∈ U, ∀ s' ∈ nextL t one s, s' ∈ U
  len : U.length ≤ 1000000
  sm : ∀ s ∈ U, Sm one s
theorem alike_states (a b : St4) : PySem.W.alike (stateD a).py (stateD b).py = true := by
  simp only [stateD, D.py, D.pys, PySem.W.alike, PySem.W.alikeAll, Bool.and_eq_true]
  exact ⟨alikeAll_ints _ _, alikeAll_ints _ _, alikeAll_ints _ _, trivial, trivial⟩
theorem pl_state (s : St4) : (stateD s).pl = true := by
  show D.pls [_, _, _, _] = true
  simp only [D.pls, Bool.and_eq_true]
  exact ⟨pl_row _, pl_row _, pl_row _, rfl, trivial⟩
theorem srt_states (l : List St4) : Srt (l.map stateD) := by
  refine ⟨⟨?_, ?_, ?_⟩, ?_⟩
  · rw [pls_all, List.all_eq_true]
    intro d m
    obtain ⟨s, _, rfl⟩ := List.mem_map.mp m
    exact pl_state s
  · rw [pys_map]
    intro d m d' m'
    obtain ⟨e, m1, rfl⟩ := List.mem_map.mp m
    obtain ⟨e', m1', rfl⟩ := List.mem_map.mp m'
    obtain ⟨s, _, rfl⟩ := List.mem_map.mp m1
    obtain ⟨s', _, rfl⟩ := List.mem_map.mp m1'
    exact alike_states s s'
  · rw [pys_map]
    refine .inl fun d m => ?_
    obtain ⟨e, m1, rfl⟩ := List.mem_map.mp m
    obtain ⟨s, _, rfl⟩ := List.mem_map.mp m1
    exact ⟨_, _, rfl⟩
  · intro d m
    obtain ⟨s, _, rfl⟩ := List.mem_map.mp m
    rw [hg_py]
    exact Nat.le_trans (ck_state (n := 0)).2 (by decide)
def srtS (l : List St4) : List St4 := l.mergeSort fun a b => !(stateD b).ltb (stateD a)
theorem srtS_perm (l : List St4) : (srtS l).Perm l := List.mergeSort_perm _ _
theorem sortD_states (l : List St4) : sortD (l.map stateD) = (srtS l).map stateD := by
  unfold sortD srtS
  rw [List.map_mergeSort]
  intro a _ b _
  rfl
def s__law_reached : DSp := fun ds M q _ => ∃ (t one : Tab) (U : List St4), ds = [tabD one, tabD t] ∧ OkT t ∧ UniL (srtT t) one U ∧ ∀ S : List St4, S.Nodup → (∀ s, s ∈ S ↔ RL (srtT t) one s) → q (.lst (S.map stateD)) M
theorem ok__law_reached : Okk (W__law_reached s__law_next) s__law_reached 2 6 := by
  rintro ds M q ex hl ⟨t, one, U, rfl, hk, u, h⟩
  have hsz := sz_small
  have hu := u.len
  have e0 : D.tup [.tup [], .tup [], .tup [], .bl false] = stateD firstS := rfl
  simp [W__law_reached, startD, e0]
  intro sp hsp kd hkd
  have hne : sp ≠ kd := fun e => by rw [e, Mem.set_same] at hkd; cases hkd
  have hkd0 : M kd = none := by rw [Mem.set_ne hne.symm] at hkd; exact hkd
  have hsub : ∀ c1 c2, SubM M ((M.set sp c1).set kd c2) := fun c1 c2 => (SubM.set hsp).trans (SubM.set (by rw [Mem.set_ne hne.symm]; exact hkd0))
  have gs : ∀ c1 c2, ((M.set sp c1).set kd c2) sp = some c1 := fun c1 c2 => by rw [Mem.set_ne hne, Mem.set_same]
  refine whl_inv (fun n ρ M' => ∃ (ks : List St4) (a : Nat) (x5 : Option D), n = U.length - a ∧ a ≤ ks.length ∧ ks.Nodup ∧ (∀ s ∈ ks, s ∈ U) ∧ firstS ∈ ks ∧ (∀ s ∈ ks, RL (srtT t) one s) ∧ (∀ s ∈ ks.take a, ∀ s' ∈ nextL (srtT t) one s, s' ∈ ks) ∧
    M' = (M.set sp (.lst (ks.map stateD))).set kd (.dct true (kvS ks)) ∧ ρ = [some (tabD one), some (tabD t), some (.ptr sp), some (.ptr kd), some (.int (a : Int)), x5]) (n := U.length) ⟨[firstS], 0, none, by simp, by simp, by simp, fun s hs => by simp at hs; rw [hs]; exact u.first, by simp, fun s hs => by simp at hs; rw [hs]; exact .first, by simp, rfl, rfl⟩ ?_
  rintro n ρ M' K ⟨ks, a, x5, rfl, ha, n1, n2, n3, n4, n5, rfl, rfl⟩ hK
  have hkU := nodup_len n1 n2
  have hlen : rLen [.ptr sp] ((M.set sp (.lst (ks.map stateD))).set kd (.dct true (kvS ks))) = fun Q => Q (.int ((ks.map stateD).length : Nat)) ((M.set sp (.lst (ks.map stateD))).set kd (.dct true (kvS ks))) := funext fun Q => len_ptr (gs _ _)
  by_cases c : a < ks.length
  · have hd : (decide (a < ks.length)) = true := by simpa using c
    obtain ⟨s, hs⟩ : ∃ s, ks[a]? = some s := ⟨_, List.getElem?_eq_getElem c⟩
    have hsk : s ∈ ks := List.mem_of_getElem? hs
    have hsg : ks[a]'c = s := by have := List.getElem?_eq_getElem c; rw [hs] at this; exact (Option.some.inj this).symm
    simp [hlen, c, ixA_ptr (gs _ _), hsg]
    refine ⟨t, one, s, rfl, hk, u.sm s (n2 s hsk), ?_⟩
    simp
    refine forL_inv (fun ds ρ M' => ∃ (ks' : List St4) (r : List St4) (x5 : Option D), ds = r.map stateD ∧ ks'.Nodup ∧ (∀ s ∈ ks', s ∈ U) ∧ (∀ s ∈ ks', RL (srtT t) one s) ∧ (∃ m, ks' = ks ++ m) ∧ (∀ z ∈ nextL (srtT t) one s, z ∈ r ∨ z ∈ ks') ∧ (∀ z ∈ r, z ∈ nextL (srtT t) one s) ∧
      M' = (M.set sp (.lst (ks'.map stateD))).set kd (.dct true (kvS ks')) ∧ ρ = [some (tabD one), some (tabD t), some (.ptr sp), some (.ptr kd), some (.int (a : Int)), x5]) (fun _ _ _ _ => trivial) ?_ ?_ _ _ _
      ⟨ks, nextL (srtT t) one s, x5, rfl, n1, n2, n4, ⟨[], by simp⟩, fun z hz => .inl hz, fun z hz => hz, rfl, rfl⟩
    · rintro ρ M' ⟨ks', r, x5, e, g1, g2, g3, ⟨m, hm⟩, g4, g5, rfl, rfl⟩
      cases r with
      | cons z r => cases e
      | nil =>
        have hk' := nodup_len g1 g2
        have hl' : ks'.length = ks.length + m.length := by rw [hm]; simp
        simp
        refine hK (U.length - (a + 1)) _ _ (by omega) ⟨ks', a + 1, x5, rfl, by omega, g1, g2, by rw [hm]; simp [n3], g3, fun z hz s' hs' => ?_, rfl, by simp⟩
        rw [hm, List.take_append_of_le_length (by omega), List.take_add_one, hs] at hz
        rcases List.mem_append.mp hz with hz | hz
        · have := n5 z hz s' hs'
          rw [hm]; simp [this]
        · simp at hz
          subst hz
          rcases g4 s' hs' with q | q
          · cases q
          · exact q
    · rintro d ds ρ M' K2 ⟨ks', r, x5, e, g1, g2, g3, ⟨m, hm⟩, g4, g5, rfl, rfl⟩ hK2
      cases r with
      | nil => cases e
      | cons z r =>
        cases e
        have hk' := nodup_len g1 g2
        have hzr : RL (srtT t) one z := .step (n4 s hsk) (g5 z (by simp))
        have hzU : z ∈ U := u.next s (n2 s hsk) z (g5 z (by simp))
        have comm : ∀ c1 c2 c3, ((M.set sp c1).set kd c2).set sp c3 = (M.set sp c3).set kd c2 := fun c1 c2 c3 => by rw [← Mem.set_comm hne, Mem.set_set]
        have hvs : ∀ c1 c2, vw ((M.set sp (.lst c1)).set kd c2) (.ptr sp) = some c1 := fun c1 c2 => vw_ptr (gs _ _)
        have hap : ∀ c1 c2 d Q, rApp (.ptr sp) [d] ((M.set sp (.lst c1)).set kd c2) Q = (c1.length < sizeLine ∧ Q .non ((M.set sp (.lst (c1 ++ [d]))).set kd c2)) := fun c1 c2 d Q => by rw [app_ptr (gs _ _), comm]
        simp [in_dct mem_ss, dget_kv, put_dct mem_ss, hvs, hap]
        by_cases cz : z ∈ ks'
        · rw [if_pos cz]
          refine hK2 _ _ ⟨ks', r, _, rfl, g1, g2, g3, ⟨m, hm⟩, fun y hy => ?_, fun y hy => g5 y (by simp [hy]), rfl, rfl⟩
          rcases g4 y hy with q | q
          · rcases List.mem_cons.mp q with rfl | q
            · exact .inr cz
            · exact .inl q
          · exact .inr q
        · rw [if_neg cz]
          refine ⟨by omega, hK2 _ _ ⟨ks' ++ [z], r, _, rfl, ?_, ?_, ?_, ⟨m ++ [z], by rw [hm]; simp⟩, fun y hy => ?_, fun y hy => g5 y (by simp [hy]), by rw [dput_kv cz]; simp, rfl⟩⟩
          · rw [List.nodup_append]
            refine ⟨g1, by simp, fun a ha b hb => ?_⟩
            simp at hb
            subst hb
            exact fun e => cz (by rw [← e]; exact ha)
          · intro x hx
            rcases List.mem_append.mp hx with hx | hx
            · exact g2 x hx
            · simp at hx; rw [hx]; exact hzU
          · intro x hx
            rcases List.mem_append.mp hx with hx | hx
            · exact g3 x hx
            · simp at hx; rw [hx]; exact hzr
          · rcases g4 y hy with q | q
            · rcases List.mem_cons.mp q with rfl | q
              · exact .inr (by simp)
              · exact .inl q
            · exact .inr (by simp [q])
  · have hd : (decide (a < ks.length)) = false := by simpa using c
    simp [hlen, c]
    have hvw : vw ((M.set sp (.lst (ks.map stateD))).set kd (.dct true (kvS ks))) (.ptr sp) = some (ks.map stateD) := vw_ptr (gs _ _)
    simp [rSorted, hvw, srt_states, sortD_states]
    refine ⟨M, hsub _ _, h _ ?_ fun s => ?_⟩
    · exact (srtS_perm ks).nodup_iff.mpr n1
    · rw [(srtS_perm ks).mem_iff]
      refine ⟨n4 s, fun hs => ?_⟩
      rw [List.take_of_length_le (by omega)] at n5
      induction hs with
      | first => exact n3
      | step _ m ih => exact n5 _ ih _ m
end DL
namespace DL
open PySem PySem.Spec L2
/-! ### what is drawn -/
abbrev handC (a b : Int) (cs : List Int) : Cell := .lst [.int a, .int b, .lst (cs.map .int)]
/-- M' is M, the hand at h another one -/
def HS (h : Addr) (M M' : Mem) : Prop := ∃ a b cs, 0 ≤ a ∧ cs ≠ [] ∧ M' = M.set h (handC a b cs)
theorem HS.trans {h : Addr} {M M1 M2 : Mem} (x : HS h M M1) (y : HS h M1 M2) : HS h M M2 := by
  obtain ⟨a, b, cs, h1, h2, rfl⟩ := x
  obtain ⟨a', b', cs', h3, h4, rfl⟩ := y
  exact ⟨a', b', cs', h3, h4, by rw [Mem.set_set]⟩
theorem Mem.self {M : Mem} {h : Addr} {c : Cell} (e : M h = some c) : M.set h c = M := by
  funext a
  by_cases ha : a = h
  · subst ha; rw [Mem.set_same, e]
  · rw [Mem.set_ne ha]
theorem HS.self {h : Addr} {M M' : Mem} (x : HS h M M') : HS h M' M' := by
  obtain ⟨a, b, cs, h1, h2, rfl⟩ := x
  exact ⟨a, b, cs, h1, h2, (Mem.self Mem.set_same).symm⟩
theorem HS.some {h : Addr} {M M' : Mem} (x : HS h M M') : ∃ c, M' h = some c := by
  obtain ⟨a, b, cs, h1, h2, rfl⟩ := x
  exact ⟨_, Mem.set_same⟩
theorem HS.ne {h p : Addr} {M M' : Mem} (x : HS h M M') (hp : M' p = none) : p ≠ h := fun e => by
  obtain ⟨c, q⟩ := x.some
  rw [e, q] at hp; cases hp
theorem HS.set {h p : Addr} {M M' : Mem} {c : Cell} (x : HS h M M') (hp : p ≠ h) : HS h (M.set p c) (M'.set p c) := by
  obtain ⟨a, b, cs, h1, h2, rfl⟩ := x
  exact ⟨a, b, cs, h1, h2, Mem.set_comm hp.symm⟩
theorem put_lst {p : Addr} {k : Int} {v : D} {M : Mem} {Q : Mem → Prop} {xs : List D} {j : Nat} (h : M p = some (.lst xs)) (hj : L2.ixN xs.length k = some j) (q : Q (M.set p (.lst (xs.set j v)))) : putItem (.ptr p) (.int k) v M Q := by
  unfold putItem
  simp only [h, hj]
  exact q
def s__law_draw : DSp := fun ds M q _ => ∃ (h : Addr) (m : Int), ds = [.ptr h, .int m] ∧ 0 < m ∧ m < 1073741824 ∧ HS h M M ∧ ∀ r M', 0 ≤ r → r < m → HS h M M' → q (.int r) M'
theorem cmul_l {i j : Int} (h : -(2 ^ 64) < i) (h' : i < 2 ^ 64) : CMul i j := .inl ⟨h, h'⟩
theorem cmul_r {i j : Int} (h : -(2 ^ 64) < j) (h' : j < 2 ^ 64) : CMul i j := .inr ⟨h, h'⟩
theorem ok__law_draw : Okk W__law_draw s__law_draw 2 5 := by
  rintro ds M q ex hl ⟨h, m, rfl, hm0, hm1, ⟨a, b, cs, ha, hcs, hM⟩, hq⟩
  rw [hM]
  simp [W__law_draw, startD]
  by_cases c : 0 < a
  · simp [c, hm0]
    refine ⟨⟨hm0, hm1⟩, put_lst (j := 0) mem_ss rfl ?_⟩
    simp
    exact hq _ _ (Int.emod_nonneg _ (by omega)) (Int.emod_lt_of_pos _ hm0) ⟨a / m, b, cs, Int.ediv_nonneg ha (by omega), hcs, rfl⟩
  · simp [c]
    have hl0 : 0 < cs.length := List.length_pos_iff.mpr hcs
    refine put_lst (j := 1) mem_ss rfl ?_
    simp [hl0]
    generalize hb : b + 1 = b1
    have hi1 : 0 ≤ b1 % (cs.length : Int) := Int.emod_nonneg _ (by omega)
    have hi2 : b1 % (cs.length : Int) < cs.length := Int.emod_lt_of_pos _ (by omega)
    obtain ⟨k, hk⟩ := Int.eq_ofNat_of_zero_le hi1
    rw [hk]
    have hkl : k < cs.length := by omega
    simp [hkl]
    have hge : 0 ≤ cs[k] % 2147483647 := Int.emod_nonneg _ (by decide)
    have hlt : cs[k] % 2147483647 < 2147483647 := Int.emod_lt_of_pos _ (by decide)
    generalize cs[k] % 2147483647 = x at *
    refine ⟨cmul_r (by decide) (by decide), cmul_r (by decide) (by decide), ?_⟩
    have r1 : ∀ z : Int, 0 ≤ z % 998244353 ∧ z % 998244353 < 998244353 := fun z => ⟨Int.emod_nonneg _ (by decide), Int.emod_lt_of_pos _ (by decide)⟩
    have r2 : ∀ z : Int, 0 ≤ z % 2147483647 ∧ z % 2147483647 < 2147483647 := fun z => ⟨Int.emod_nonneg _ (by decide), Int.emod_lt_of_pos _ (by decide)⟩
    generalize hy : (x * 48271 + b1 * 7368787 + 11) % 998244353 = y
    have hy1 : 0 ≤ y ∧ y < 998244353 := by rw [← hy]; exact r1 _
    refine ⟨cmul_r (by omega) (by omega), ?_⟩
    refine ⟨cmul_r (by decide) (by decide), ?_⟩
    generalize hz : ((y * y + b1) % 998244353 * 40503203 + 12345) % 2147483647 = z
    have hz1 : 0 ≤ z ∧ z < 2147483647 := by rw [← hz]; exact r2 _
    refine ⟨cmul_r (by omega) (by omega), ⟨by decide, by decide⟩, hm0, ?_⟩
    exact hq _ _ (Int.emod_nonneg _ (by omega)) (Int.emod_lt_of_pos _ hm0) ⟨a, b1, cs, ha, hcs, rfl⟩
end DL
namespace DL
open PySem PySem.Spec L2
def byteL (b s : Int) (n : Nat) : Row := (List.range n).map fun (k : Nat) => (b + s * (k : Int)) % 256
theorem byteL_nodup {b s : Int} {n : Nat} (hs : 1 ≤ s) (hs2 : s ≤ 60) (hn : n ≤ 8) : (byteL b s n).Nodup := by
  unfold byteL
  rw [List.nodup_iff_pairwise_ne, List.pairwise_map]
  refine List.Pairwise.imp_of_mem (fun {i j} hi hj (hne : i < j) e => ?_) List.pairwise_lt_range
  rw [List.mem_range] at hi hj
  obtain ⟨d, hd⟩ : ∃ d : Nat, j = i + d := ⟨j - i, by omega⟩
  subst hd
  have hd : d = 1 ∨ d = 2 ∨ d = 3 ∨ d = 4 ∨ d = 5 ∨ d = 6 ∨ d = 7 := by omega
  have e2 : s * ((i + d : Nat) : Int) = s * (i : Int) + s * (d : Int) := by rw [Int.natCast_add, Int.mul_add]
  rw [e2] at e
  generalize s * (i : Int) = y at e
  rcases hd with rfl | rfl | rfl | rfl | rfl | rfl | rfl <;> simp at e <;> omega
def s__law_bytes : DSp := fun ds M q _ => ∃ (h : Addr) (m : Nat), ds = [.ptr h, .int (m : Int)] ∧ 2 ≤ m ∧ m ≤ 8 ∧ HS h M M ∧ ∀ (bs : Row) M', bs.Nodup → 2 ≤ bs.length → bs.length ≤ m → HS h M M' → q (cellsD bs) M'
theorem ok__law_bytes : Okk (W__law_bytes s__law_draw) s__law_bytes 2 5 := by
  rintro ds M q ex hl ⟨h, m, rfl, h2, h8, hs, hq⟩
  simp [W__law_bytes, startD]
  refine ⟨h, 256, rfl, by decide, by decide, hs, fun b M1 b1 b2 s1 => ?_⟩
  simp
  refine ⟨h, 60, rfl, by decide, by decide, s1.self, fun s M2 c1 c2 s2 => ?_⟩
  simp
  refine ⟨h, (m : Int) - 1, rfl, by omega, by omega, s2.self, fun n M3 n1 n2 s3 => ?_⟩
  simp
  refine ⟨by omega, ?_⟩
  have s13 := (s1.trans s2).trans s3
  obtain ⟨k, rfl⟩ := Int.eq_ofNat_of_zero_le n1
  have hk : ((2 : Int) + (k : Int)).toNat = k + 2 := by omega
  have e1 : intsD 0 ((2 : Int) + (k : Int)).toNat = (List.range (k + 2)).map fun (i : Nat) => D.int (i : Int) := by
    rw [hk]; unfold intsD; apply List.map_congr_left; intro i _; simp
  rw [e1]
  refine lc_map (l := List.range (k + 2)) (e := fun (i : Nat) => D.int (i : Int)) (fun (i : Nat) => .int ((b + (1 + s) * (i : Int)) % 256)) (fun _ _ _ => trivial) (fun p hp i hi acc Qc hQ => ?_) (by simp; exact Nat.le_of_lt (lt1000 (by omega))) ?_
  · simp
    exact ⟨cmul_l (by omega) (by omega), hQ⟩
  · have := hq (byteL b (1 + s) (k + 2)) M3 (byteL_nodup (by omega) (by omega) (by omega)) (by simp [byteL]) (by simp [byteL]; omega) s13
    unfold byteL at this
    simpa [cellsD, List.map_map, Function.comp_def] using this
end DL
namespace DL
open PySem PySem.Spec L2
theorem HS.unset {h p : Addr} {M X : Mem} {c : Cell} (x : HS h (M.set p c) X) (hp : p ≠ h) : ∃ M', X = M'.set p c ∧ HS h M M' := by
  obtain ⟨a, b, cs, h1, h2, rfl⟩ := x
  exact ⟨M.set h (handC a b cs), (Mem.set_comm hp), a, b, cs, h1, h2, rfl⟩
/-- a comprehension whose test draws: some of the items -/
theorem compL_hand {α : Type} {h p : Addr} {M0 : Mem} {bind : DWG} {test : DWT} {elt : DW} {ρ : Env'} {Q : Mem → Prop} (e f : α → D) (hp : p ≠ h) : ∀ (l : List α) (acc : List D) (M' : Mem),
    (∀ a ∈ l, ∀ acc M', HS h M0 M' → ∀ (Qc : D → Mem → Prop) (Qn : Mem → Prop), (∀ M'', HS h M0 M'' → Qc (f a) (M''.set p (.lst acc)) ∧ Qn (M''.set p (.lst acc))) → bind (e a) ρ (M'.set p (.lst acc)) (fun ρ' M1 => test ρ' M1 (fun b M2 => if b = true then elt ρ' M2 Qc noX else Qn M2) noX)) →
    HS h M0 M' → acc.length + l.length ≤ sizeLine → (∀ l' M'', List.Sublist l' l → HS h M0 M'' → Q (M''.set p (.lst (acc ++ l'.map f)))) → compL p (fun _ => True) bind test elt ρ Q (l.map e) (M'.set p (.lst acc))
  | [], acc, M', _, hs, _, hQ => ⟨trivial, by simpa using hQ [] M' (List.Sublist.refl _) hs⟩
  | a :: l, acc, M', ht, hs, hl, hQ => by
    simp at hl
    refine ⟨trivial, ht a (by simp) acc M' hs _ _ fun M'' h2 => ⟨⟨acc, Mem.set_same, by omega, ?_⟩, ?_⟩⟩
    · rw [Mem.set_set]
      exact compL_hand e f hp l _ M'' (fun b m => ht b (by simp [m])) h2 (by simp; omega) fun l' M3 sb h3 => by simpa using hQ (a :: l') M3 (sb.cons₂ a) h3
    · exact compL_hand e f hp l _ M'' (fun b m => ht b (by simp [m])) h2 (by omega) fun l' M3 sb h3 => hQ l' M3 (sb.cons a) h3
structure WOK (sm : Row) (L : Nat) (ws : List Row) : Prop where
  ne : ∀ w ∈ ws, w ≠ []
  len : ∀ w ∈ ws, w.length ≤ L
  al : ∀ w ∈ ws, ∀ x ∈ w, x ∈ sm
  ap : ws.Pairwise apartW
theorem apart_snoc {u w : Row} {x : Int} (h : apartW u w) : apartW u (w ++ [x]) := by
  rw [apartW_iff] at h ⊢
  refine ⟨fun q => ?_, fun q => h.2 ((List.prefix_append w [x]).trans q)⟩
  rcases List.prefix_concat_iff.mp q with q | q
  · exact h.2 (by rw [q]; exact List.prefix_append w [x])
  · exact h.1 q
theorem apart_two {w : Row} {x y : Int} (h : x ≠ y) : apartW (w ++ [x]) (w ++ [y]) := by
  rw [apartW_iff]
  refine ⟨fun q => h ?_, fun q => h ?_⟩
  · have := q.eq_of_length (by simp)
    simpa using this
  · have := q.eq_of_length (by simp)
    simpa using this.symm
theorem WOK.start {sm : Row} {L : Nat} (hn : sm.Nodup) (hL : 1 ≤ L) : WOK sm L (sm.map fun x => [x]) := by
  refine ⟨fun w m => ?_, fun w m => ?_, fun w m => ?_, ?_⟩
  · obtain ⟨x, _, rfl⟩ := List.mem_map.mp m; simp
  · obtain ⟨x, _, rfl⟩ := List.mem_map.mp m; simpa using hL
  · obtain ⟨x, hx, rfl⟩ := List.mem_map.mp m; intro y hy; simp at hy; rw [hy]; exact hx
  · rw [List.pairwise_map]
    exact List.Pairwise.imp (fun {x y} (h : x ≠ y) => apart_two (w := []) h) hn
theorem WOK.grow {sm : Row} {L : Nat} {A B : List Row} {w : Row} (hn : sm.Nodup) (h : WOK sm L (A ++ w :: B)) (sm' : Row) (hs : sm'.Sublist sm) (hL : w.length + 1 ≤ L) : WOK sm L (A ++ sm'.map (fun x => w ++ [x]) ++ B) := by
  have hw : w ∈ A ++ w :: B := by simp
  have mem : ∀ v ∈ A ++ sm'.map (fun x => w ++ [x]) ++ B, v ∈ A ++ w :: B ∨ ∃ x ∈ sm', v = w ++ [x] := fun v hv => by
    rcases List.mem_append.mp hv with hv | hv
    · rcases List.mem_append.mp hv with hv | hv
      · exact .inl (by simp [hv])
      · obtain ⟨x, hx, rfl⟩ := List.mem_map.mp hv; exact .inr ⟨x, hx, rfl⟩
    · exact .inl (by simp [hv])
  refine ⟨fun v hv => ?_, fun v hv => ?_, fun v hv => ?_, ?_⟩
  · rcases mem v hv with q | ⟨x, _, rfl⟩
    · exact h.ne v q
    · simp
  · rcases mem v hv with q | ⟨x, _, rfl⟩
    · exact h.len v q
    · simpa using hL
  · rcases mem v hv with q | ⟨x, hx, rfl⟩
    · exact h.al v q
    · intro y hy
      rcases List.mem_append.mp hy with hy | hy
      · exact h.al w hw y hy
      · simp at hy; rw [hy]; exact hs.subset hx
  · have p := h.ap
    rw [List.pairwise_append, List.pairwise_cons] at p
    obtain ⟨p1, ⟨p2, p3⟩, p4⟩ := p
    rw [List.append_assoc, List.pairwise_append]
    refine ⟨p1, ?_, fun u hu v hv => ?_⟩
    · rw [List.pairwise_append]
      refine ⟨?_, p3, fun u hu v hv => ?_⟩
      · rw [List.pairwise_map]
        exact List.Pairwise.imp (fun {x y} (h : x ≠ y) => apart_two h) (hn.sublist hs)
      · obtain ⟨x, _, rfl⟩ := List.mem_map.mp hu
        exact (apart_snoc (p2 v hv).symm).symm
    · rcases List.mem_append.mp hv with hv | hv
      · obtain ⟨x, _, rfl⟩ := List.mem_map.mp hv
        exact apart_snoc (p4 u hu w (by simp))
      · exact p4 u hu v (by simp [hv])
theorem WOK.sub {sm : Row} {L : Nat} {ws ws' : List Row} (h : WOK sm L ws) (s : ws'.Sublist ws) : WOK sm L ws' :=
  ⟨fun w m => h.ne w (s.subset m), fun w m => h.len w (s.subset m), fun w m => h.al w (s.subset m), h.ap.sublist s⟩
theorem WOK.mono {sm : Row} {L L' : Nat} {ws : List Row} (h : WOK sm L ws) (hL : L ≤ L') : WOK sm L' ws := ⟨h.ne, fun w m => Nat.le_trans (h.len w m) hL, h.al, h.ap⟩
abbrev rowsD (ws : List Row) : D := .lst (ws.map fun w => .tup (w.map .int))
end DL
namespace DL
open PySem PySem.Spec L2
theorem split_at {α : Type} {l : List α} {k : Nat} {a : α} (h : l[k]? = some a) : l = l.take k ++ a :: l.drop (k + 1) := by
  obtain ⟨h1, h2⟩ := List.getElem?_eq_some_iff.mp h
  rw [← h2, ← List.drop_eq_getElem_cons h1, List.take_append_drop]
theorem mod_at {r : Int} {n : Nat} (h0 : 0 < n) (hr : 0 ≤ r) : ∃ k : Nat, r % (n : Int) = (k : Int) ∧ k < n := by
  have h1 : 0 ≤ r % (n : Int) := Int.emod_nonneg _ (by omega)
  have h2 : r % (n : Int) < n := Int.emod_lt_of_pos _ (by omega)
  obtain ⟨k, hk⟩ := Int.eq_ofNat_of_zero_le h1
  exact ⟨k, hk, by omega⟩
def s__law_words : DSp := fun ds M q _ => ∃ (h : Addr) (sm : Row) (most L : Nat), ds = [.ptr h, cellsD sm, .int (most : Int), .int (L : Int)] ∧ most ≤ 2 ∧ 1 ≤ L ∧ L ≤ 100 ∧ sm.Nodup ∧ 2 ≤ sm.length ∧ sm.length ≤ 8 ∧ HS h M M ∧ ∀ (ws : List Row) M', WOK sm L ws → ws.length ≤ 30 → HS h M M' → q (rowsD ws) M'
theorem ok__law_words : Okk (W__law_words s__law_draw) s__law_words 4 9 := by
  rintro ds M q ex hl ⟨h, sm, most, L, rfl, hm, hL, hL2, hn, h2, h8, hs, hq⟩
  have hsz := sz_small
  simp [W__law_words, startD]
  refine lc_map (l := sm) (e := D.int) (fun x => rowD [x]) (fun _ _ _ => trivial) (fun p hp x hx acc Qc hQ => ?_) (by omega) ?_
  · simp
    exact hQ
  simp
  refine ⟨h, (most : Int) + 1, rfl, by omega, by omega, hs, fun n M1 n1 n2 s1 => ?_⟩
  simp
  refine ⟨by omega, ?_⟩
  obtain ⟨n, rfl⟩ := Int.eq_ofNat_of_zero_le n1
  have hn0 : ((n : Int)).toNat = n := by simp
  simp only [hn0] at *
  refine forL_inv (fun ds ρ M' => HS h M M' ∧ ∃ (i m : Nat) (ws : List Row) (x5 x6 : Option D), ds = intsD (i : Int) m ∧ i + m = n ∧ WOK sm L ws ∧ 2 ≤ ws.length ∧ ws.length ≤ 8 + 8 * i ∧ ρ = [some (.ptr h), some (cellsD sm), some (.int (most : Int)), some (.int (L : Int)), some (rowsD ws), x5, x6, none, none]) (fun _ _ _ _ => trivial) ?_ ?_ _ _ _
    ⟨s1, 0, n, sm.map fun x => [x], none, none, by simp, by omega, WOK.start hn hL, by simpa using h2, by simpa using h8, by simp [List.map_map, Function.comp_def]⟩
  · rintro ρ M' ⟨s2, i, m, ws, x5, x6, e, i1, wk, l1, l2, rfl⟩
    simp
    have l3 : ws.length ≤ 24 := by omega
    intro p hp
    have hph := s2.ne hp
    refine compL_hand (h := h) (M0 := M') (fun w => rowD w) (fun w => rowD w) hph ws [] M' (fun w hw acc M2 k2 Qc Qn hc => ?_) s2.self (by simp; omega) fun l' M2 sb k2 => ?_
    · simp
      refine ⟨h, 5, rfl, by decide, by decide, (k2.self.set hph.symm.symm), fun r M3 r1 r2 k3 => ?_⟩
      obtain ⟨M4, rfl, k4⟩ := k3.unset hph
      have := hc M4 (k2.trans k4)
      simp
      split
      · exact this.1
      · exact this.2
    · refine ⟨_, Mem.set_same, ?_⟩
      have hp2 : M2 p = none := by
        obtain ⟨a, b, cs, _, _, e⟩ := k2
        rw [e, Mem.set_ne hph]; exact hp
      rw [Mem.del_set hp2]
      exact hq l' M2 (wk.sub sb) (by have := sb.length_le; omega) (s2.trans k2)
  · rintro d ds ρ M' K ⟨s2, i, m, ws, x5, x6, e, i1, wk, l1, l2, rfl⟩ hK
    cases m with
    | zero => rw [intsD_zero] at e; cases e
    | succ m =>
      rw [intsD_succ] at e
      cases e
      simp
      refine ⟨h, 60, rfl, by decide, by decide, s2.self, fun r M2 r1 r2 s3 => ?_⟩
      obtain ⟨k, hk, hkl⟩ := mod_at (n := ws.length) (by omega) r1
      obtain ⟨w, hw⟩ : ∃ w, ws[k]? = some w := ⟨_, List.getElem?_eq_getElem hkl⟩
      have hwg : ws[k] = w := by have := List.getElem?_eq_getElem hkl; rw [hw] at this; exact (Option.some.inj this).symm
      simp [hk, hkl, hwg]
      refine ⟨by omega, ?_⟩
      by_cases c : w.length < L
      · rw [if_pos c]
        refine lc_map (l := sm) (e := D.int) (fun x => rowD (w ++ [x])) (fun _ _ _ => trivial) (fun p hp x hx acc Qc hQ => ?_) (by omega) ?_
        · simp [hkl, hwg]
          have := wk.len w (List.mem_of_getElem? hw)
          exact ⟨by omega, by simpa [rowD] using hQ⟩
        · have wk' := wk
          rw [split_at hw] at wk'
          have wg := wk'.grow hn sm (List.Sublist.refl _) c
          simp [cut_to, cut_from1]
          refine ⟨by omega, by omega, hK _ _ ⟨s2.trans s3, i + 1, m, ws.take k ++ sm.map (fun x => w ++ [x]) ++ ws.drop (k + 1), some (.int (i : Int)), some (.int (k : Int)), by simp, by omega, wg, by simp; omega, by simp; omega, ?_⟩⟩
          simp [List.map_take, List.map_drop, Function.comp_def]
      · rw [if_neg c]
        exact hK _ _ ⟨s2.trans s3, i + 1, m, ws, _, _, by simp, by omega, wk, l1, by omega, rfl⟩
end DL
namespace DL
open PySem PySem.Spec L2
theorem mm_max1 {n : Nat} (h : 1 ≤ n) {M : Mem} {Q : QE} : rMM true [.int 1, .int (n : Int)] M Q = Q (.int (n : Int)) M := by
  have := mm_maxN (a := 1) (b := n) (M := M) (Q := Q)
  rw [Nat.max_eq_right h] at this
  exact this
theorem rot_perm {α : Type} (l : List α) (k : Nat) : (l.drop k ++ l.take k).Perm l := by
  have := List.perm_append_comm (l₁ := l.drop k) (l₂ := l.take k)
  rwa [List.take_append_drop] at this
def signL (b s : Int) (n : Nat) : List Int := (List.range n).map fun (k : Nat) => b + s * (k : Int)
theorem signL_nodup {b s : Int} {n : Nat} (hs : 1 ≤ s) : (signL b s n).Nodup := by
  unfold signL
  rw [List.nodup_iff_pairwise_ne, List.pairwise_map]
  refine List.Pairwise.imp (fun {i j} (h : i < j) e => ?_) List.pairwise_lt_range
  have e2 : s * (i : Int) = s * (j : Int) := by omega
  have := Int.eq_of_mul_eq_mul_left (by omega : s ≠ 0) e2
  omega
def s__law_signs : DSp := fun ds M q _ => ∃ (h : Addr) (n : Nat), ds = [.ptr h, .int (n : Int)] ∧ 1 ≤ n ∧ n ≤ 100 ∧ HS h M M ∧ ∀ (sg : List Int) M', sg.Nodup → sg.length = n → HS h M M' → q (cellsD sg) M'
theorem ok__law_signs : Okk (W__law_signs s__law_draw) s__law_signs 2 7 := by
  rintro ds M q ex hl ⟨h, n, rfl, h1, h2, hs, hq⟩
  have hsz := sz_small
  simp [W__law_signs, startD]
  refine ⟨h, 4, rfl, by decide, by decide, hs, fun r1 M1 a1 b1 s1 => ?_⟩
  simp
  refine ⟨h, 500, rfl, by decide, by decide, s1.self, fun r2 M2 a2 b2 s2 => ?_⟩
  simp
  refine ⟨⟨by decide, by decide, by decide⟩, cmul_r (by decide) (by decide), h, 1000000, rfl, by decide, by decide, s2.self, fun r3 M3 a3 b3 s3 => ?_⟩
  simp
  refine ⟨cmul_l (by split <;> decide) (by split <;> decide), h, 40, rfl, by decide, by decide, s3.self, fun r4 M4 a4 b4 s4 => ?_⟩
  simp
  refine ⟨⟨by decide, by decide, by decide⟩, h, 10000000, rfl, by decide, by decide, s4.self, fun r5 M5 a5 b5 s5 => ?_⟩
  simp
  refine ⟨h, 3, rfl, by decide, by decide, s5.self, fun r6 M6 a6 b6 s6 => ?_⟩
  have s16 := ((((s1.trans s2).trans s3).trans s4).trans s5).trans s6
  generalize hb : (if 0 < r1 then (1 : Int) else 0) * (r2 * 1000000 + r3) = b
  have step : ∃ st : Int, L2.atI [D.int 0, D.int r4, D.int r5] r6 = some (.int st) ∧ 0 ≤ st ∧ st < 10000000 := by
    obtain ⟨k, rfl⟩ := Int.eq_ofNat_of_zero_le a6
    have hk : k < 3 := by omega
    rw [atI_nat]
    rcases (by omega : k = 0 ∨ k = 1 ∨ k = 2) with rfl | rfl | rfl
    · exact ⟨0, rfl, by decide, by decide⟩
    · exact ⟨r4, rfl, a4, by omega⟩
    · exact ⟨r5, rfl, a5, b5⟩
  obtain ⟨st, hst, st1, st2⟩ := step
  simp [hst]
  refine ⟨by omega, ?_⟩
  have e1 : intsD 0 n = (List.range n).map fun (i : Nat) => D.int (i : Int) := by
    unfold intsD; apply List.map_congr_left; intro i _; simp
  rw [e1]
  refine lc_map (l := List.range n) (e := fun (i : Nat) => D.int (i : Int)) (fun (i : Nat) => .int (b + (1 + st) * (i : Int))) (fun _ _ _ => trivial) (fun p hp i hi acc Qc hQ => ?_) (by simp; omega) ?_
  · simp
    exact ⟨cmul_l (by omega) (by omega), hQ⟩
  have e2 : ((List.range n).map fun (i : Nat) => D.int (b + (1 + st) * (i : Int))) = (signL b (1 + st) n).map D.int := by
    unfold signL; rw [List.map_map]; rfl
  rw [e2]
  have nd := signL_nodup (b := b) (s := 1 + st) (n := n) (by omega)
  have ln : (signL b (1 + st) n).length = n := by simp [signL]
  generalize signL b (1 + st) n = sg at *
  simp
  refine ⟨h, 60, rfl, by decide, by decide, s6.self, fun r7 M7 a7 b7 s7 => ?_⟩
  obtain ⟨k, hk, hkn⟩ := mod_at (n := n) (by omega) a7
  have hmm : (if (1 : Int) < (n : Int) then (n : Int) else 1) = (n : Int) := by split <;> omega
  simp [hk, cut_to, cut_from, hmm, mm_max1 h1]
  refine ⟨by omega, by omega, h, 2, rfl, by decide, by decide, s7.self, fun r8 M8 a8 b8 s8 => ?_⟩
  have s18 := (s16.trans s7).trans s8
  have pr := rot_perm sg k
  have fin : q (cellsD (sg.drop k ++ sg.take k)) M8 := hq _ M8 (pr.nodup_iff.mpr nd) (by rw [pr.length_eq]; exact ln) s18
  have fin2 : q (cellsD (sg.drop k ++ sg.take k).reverse) M8 := hq _ M8 ((List.reverse_perm _).nodup_iff.mpr (pr.nodup_iff.mpr nd)) (by rw [List.length_reverse, pr.length_eq]; exact ln) s18
  simp [cellsD] at fin fin2 ⊢
  split
  · exact fin2
  · exact fin
/-- a table laid from words and signs -/
def s__law_table : DSp := fun ds M q _ => ∃ (h : Addr) (ws : List Row) (sg : List Int), ds = [.ptr h, rowsD ws, cellsD sg] ∧ ws.length ≤ sg.length ∧ 1 ≤ sg.length ∧ sg.length ≤ 100 ∧ sg.Nodup ∧ HS h M M ∧
  ∀ (t : Tab) M', (t.map (·.2)).Perm ws → (t.map (·.1)).Nodup → HS h M M' → q (tabD t) M'
theorem ok__law_table : Okk (W__law_table s__law_draw) s__law_table 3 7 := by
  rintro ds M q ex hl ⟨h, ws, sg, rfl, l1, l2, l3, nd, hs, hq⟩
  have hsz := sz_small
  simp [W__law_table, startD]
  refine ⟨h, 60, rfl, by decide, by decide, hs, fun r1 M1 a1 b1 s1 => ?_⟩
  obtain ⟨k, hk, hkn⟩ := mod_at (n := sg.length) (by omega) a1
  simp [hk, cut_to, cut_from, mm_max1 l2]
  refine ⟨by omega, by omega, by omega, ?_⟩
  have pr := rot_perm sg k
  have e2 : List.drop k (List.map D.int sg) ++ List.take k (List.map D.int sg) = (sg.drop k ++ sg.take k).map D.int := by simp
  rw [e2]
  have nd2 := pr.nodup_iff.mpr nd
  have ln := pr.length_eq
  generalize sg.drop k ++ sg.take k = sp at *
  have e1 : intsD 0 ws.length = (List.range ws.length).map fun (i : Nat) => D.int (i : Int) := by
    unfold intsD; apply List.map_congr_left; intro i _; simp
  rw [e1]
  let t : Tab := (List.range ws.length).map fun i => (sp.getD i 0, ws.getD i [])
  have ht2 : t.map (·.2) = ws := by
    apply List.ext_getElem
    · simp [t]
    · intro i h1 h2; simp [t]; rw [List.getElem?_eq_getElem h2]; rfl
  have ht1 : t.map (·.1) = sp.take ws.length := by
    apply List.ext_getElem
    · simp [t]; omega
    · intro i h1 h2
      simp [t]
      simp at h2
      rw [List.getElem?_eq_getElem (by omega)]; rfl
  refine lc_map (l := List.range ws.length) (e := fun (i : Nat) => D.int (i : Int)) (fun (i : Nat) => pairD (sp.getD i 0, ws.getD i [])) (fun _ _ _ => trivial) (fun p hp i hi acc Qc hQ => ?_) (by simp; omega) ?_
  · rw [List.mem_range] at hi
    have h1 : i < sp.length := by omega
    simp [h1, hi]
    simpa [h1, hi] using hQ
  have e3 : ((List.range ws.length).map fun (i : Nat) => pairD (sp.getD i 0, ws.getD i [])) = t.map pairD := by simp [t]
  rw [e3]
  simp
  refine ⟨h, 2, rfl, by decide, by decide, s1.self, fun r8 M8 a8 b8 s8 => ?_⟩
  have s18 := s1.trans s8
  have n1 : (t.map (·.1)).Nodup := by rw [ht1]; exact nd2.sublist (List.take_sublist _ _)
  have fin : q (tabD t) M8 := hq _ M8 (by rw [ht2]) n1 s18
  have fin2 : q (tabD t.reverse) M8 := hq _ M8 (by rw [List.map_reverse, ht2]; exact List.reverse_perm _) (by rw [List.map_reverse]; exact (List.reverse_perm _).nodup_iff.mpr n1) s18
  simp [tabD] at fin fin2 ⊢
  split
  · exact fin2
  · exact fin
end DL
namespace DL
open PySem PySem.Spec L2
def two_if (s__law_draw : DSp) : DWS := sIf (wAnd (wTB (wBin (rEqD true) (wVar 3) (wLst (wNil)))) (wTB (wBin (rLtD true) (wVar 5) (wC (.int 0))))) (sSeq (sSet 6 (wBin rModD (wCall 2 s__law_draw (wCons (wVar 0) (wCons (wC (.int 60)) (wNil)))) (wCB rLen (wCons (wVar 3) (wNil))))) (sSeq (sSet 4 (wBin rAddD (wSl (wVar 3) wNoP (wP (wVar 6))) (wSl (wVar 3) (wP (wBin rAddD (wVar 6) (wC (.int 1)))) wNoP))) (sSeq (sIf (wAnd (wTB (wBin (rEqD false) (wVar 5) (wC (.int 2)))) (wTB (wBin (rLtD false) (wCB rLen (wCons (wBin rIxA (wVar 3) (wVar 6)) (wNil))) (wC (.int 4))))) (sSet 4 (wBin rAddD (wVar 4) (wLc (wiL (wSl (wVar 1) wNoP (wP (wC (.int 3))))) (gNm 9) (wYes) (wBin rAddD (wBin rIxA (wVar 3) (wVar 6)) (wTup (wCons (wVar 9) (wNil)))) [9]))) (sNil)) (sIf (wAnd (wTB (wBin (rEqD false) (wVar 5) (wC (.int 3)))) (wTB (wBin (rLtD false) (wCB rLen (wCons (wBin rIxA (wVar 3) (wVar 6)) (wNil))) (wC (.int 4))))) (sSet 4 (wBin rAddD (wVar 4) (wLst (wCons (wBin rAddD (wBin rIxA (wVar 3) (wVar 6)) (wTup (wCons (wBin rIxA (wVar 1) (wC (.int 0))) (wNil)))) (wNil))))) (sNil))))) (sNil)
def two_sw (s__law_draw : DSp) : DWS := sIf (wAnd (wTB (wBin (rLtD false) (wCB rLen (wCons (wVar 4) (wNil))) (wBin rIxA (wLst (wCons (wC (.int 7)) (wCons (wC (.int 9)) (wNil)))) (wCB rInt1 (wCons (wBin (rLtD true) (wCB rLen (wCons (wVar 1) (wNil))) (wC (.int 3))) (wNil)))))) (wTB (wBin (rEqD false) (wCall 2 s__law_draw (wCons (wVar 0) (wCons (wC (.int 4)) (wNil)))) (wC (.int 0))))) (sAsg (gTp (gsCons (gNm 3) (gsCons (gNm 4) (gsNil)))) (wTup (wCons (wVar 4) (wCons (wVar 3) (wNil))))) (sNil)
def two_end (s__law_table s__law_signs : DSp) : DWS := sSeq (sSet 7 (wCall 2 s__law_signs (wCons (wVar 0) (wCons (wC (.int 10)) (wNil))))) (sSeq (sSet 8 (wCall 3 s__law_table (wCons (wVar 0) (wCons (wVar 3) (wCons (wVar 7) (wNil)))))) (sSeq (sIf (wTB (wBin (rEqD false) (wVar 5) (wC (.int 4)))) (sRet (wTup (wCons (wVar 8) (wCons (wCall 3 s__law_table (wCons (wVar 0) (wCons (wVar 3) (wCons (wVar 7) (wNil))))) (wNil))))) (sNil)) (sRet (wTup (wCons (wVar 8) (wCons (wCall 3 s__law_table (wCons (wVar 0) (wCons (wVar 4) (wCons (wVar 7) (wNil))))) (wNil)))))))
def two_B (s__law_draw : DSp) : DWS := sSet 2 (wBin rAddD (wCB (rMM true) (wCons (wC (.int 1)) (wCons (wBin rSubD (wC (.int 5)) (wCB rLen (wCons (wVar 1) (wNil)))) (wNil)))) (wCB rInt1 (wCons (wAndV (wBin (rEqD false) (wCB rLen (wCons (wVar 1) (wNil))) (wC (.int 2))) ((wBin (rEqD false) (wCall 2 s__law_draw (wCons (wVar 0) (wCons (wC (.int 8)) (wNil)))) (wC (.int 0))))) (wNil))))
def two_rest (s__law_table s__law_signs s__law_draw s__law_words : DSp) : DWS := sSeq (sSet 3 (wSl (wCall 4 s__law_words (wCons (wVar 0) (wCons (wVar 1) (wCons (wC (.int 2)) (wCons (wVar 2) (wNil)))))) wNoP (wP (wBin rIxA (wLst (wCons (wC (.int 4)) (wCons (wC (.int 6)) (wNil)))) (wCB rInt1 (wCons (wBin (rLtD true) (wCB rLen (wCons (wVar 1) (wNil))) (wC (.int 3))) (wNil))))))) (sSeq (sSet 4 (wSl (wCall 4 s__law_words (wCons (wVar 0) (wCons (wVar 1) (wCons (wC (.int 2)) (wCons (wVar 2) (wNil)))))) wNoP (wP (wC (.int 7))))) (sSeq (sSet 5 (wCall 2 s__law_draw (wCons (wVar 0) (wCons (wC (.int 5)) (wNil))))) (sSeq (two_if s__law_draw) (sSeq (two_sw s__law_draw) (two_end s__law_table s__law_signs)))))
theorem two_eq (s__law_table s__law_signs s__law_draw s__law_words s__law_bytes : DSp) : W__law_two s__law_table s__law_signs s__law_draw s__law_words s__law_bytes = sSeq (sSet 1 (wCall 2 s__law_bytes (wCons (wVar 0) (wCons (wBin rIxA (wLst (wCons (wC (.int 3)) (wCons (wC (.int 8)) (wNil)))) (wCB rInt1 (wCons (wBin (rEqD false) (wCall 2 s__law_draw (wCons (wVar 0) (wCons (wC (.int 8)) (wNil)))) (wC (.int 0))) (wNil)))) (wNil))))) (sSeq (two_B s__law_draw) (two_rest s__law_table s__law_signs s__law_draw s__law_words)) := rfl
theorem WOK.perm {sm : Row} {L : Nat} {ws ws' : List Row} (h : WOK sm L ws) (p : ws'.Perm ws) : WOK sm L ws' :=
  ⟨fun w m => h.ne w (p.mem_iff.mp m), fun w m => h.len w (p.mem_iff.mp m), fun w m => h.al w (p.mem_iff.mp m), List.Perm.pairwise p.symm h.ap fun h => h.symm⟩
theorem cok_rows {ws : List Row} : (rowsD ws).cok = true := Ck.cok (n := 2) (Ck.lst fun d m => by obtain ⟨w, _, rfl⟩ := List.mem_map.mp m; exact Ck.ints) (by decide)
/-- the sizes of what is drawn -/
structure Szs (sm : Row) (lg Lx : Nat) : Prop where
  nd : sm.Nodup
  l2 : 2 ≤ sm.length
  l8 : sm.length ≤ 8
  lg1 : 1 ≤ lg
  le : lg ≤ Lx
  x4 : Lx ≤ 4
  ext : ∀ n, n ≤ lg → n < 4 → n + 1 ≤ Lx
  cnt : sm.length = 2 ∨ (sm.length = 3 ∧ Lx ≤ 3) ∨ Lx ≤ 2
theorem two_if_ok {h : Addr} {sm : Row} {lg Lx way : Nat} {ws oth : List Row} {M : Mem} {k : DK} {x6 x7 x8 x9 : Option D} (z : Szs sm lg Lx) (w1 : WOK sm lg ws) (w2 : WOK sm lg oth) (l1 : ws.length ≤ 6) (l2 : oth.length ≤ 7) (hs : HS h M M)
    (hk : ∀ (oth' : List Row) M' x6, WOK sm Lx oth' → oth'.length ≤ 8 → HS h M M' → k.nx [some (.ptr h), some (cellsD sm), some (.int (lg : Int)), some (rowsD ws), some (rowsD oth'), some (.int (way : Int)), x6, x7, x8, none] M') :
    two_if s__law_draw k [some (.ptr h), some (cellsD sm), some (.int (lg : Int)), some (rowsD ws), some (rowsD oth), some (.int (way : Int)), x6, x7, x8, none] M := by
  have hsz := sz_small
  have z8 := z.l8
  by_cases c : ws ≠ [] ∧ 0 < way
  · obtain ⟨c1, c2⟩ := c
    have hl0 := List.length_pos_iff.mpr c1
    have ci : (ws.map fun w => D.tup (w.map .int)).isEmpty = false := by simpa using c1
    simp [two_if, cok_rows, c1, c2]
    refine ⟨h, 60, rfl, by decide, by decide, hs, fun r M1 a1 b1 s1 => ?_⟩
    obtain ⟨i, hi, hil⟩ := mod_at (n := ws.length) hl0 a1
    obtain ⟨w, hw⟩ : ∃ w, ws[i]? = some w := ⟨_, List.getElem?_eq_getElem hil⟩
    have hwg : ws[i] = w := by have := List.getElem?_eq_getElem hil; rw [hw] at this; exact (Option.some.inj this).symm
    have hwl := w1.len w (List.mem_of_getElem? hw)
    have sp := split_at hw
    have base : WOK sm Lx (ws.take i ++ ws.drop (i + 1)) := (w1.sub (by
      conv => rhs; rw [sp]
      exact List.Sublist.append (List.Sublist.refl _) (List.sublist_cons_self _ _))).mono z.le
    have bl : (ws.take i ++ ws.drop (i + 1)).length ≤ 5 := by simp; omega
    have e0 : List.take i (List.map (fun w => D.tup (List.map D.int w)) ws) ++ List.drop (i + 1) (List.map (fun w => D.tup (List.map D.int w)) ws) = (ws.take i ++ ws.drop (i + 1)).map (fun w => D.tup (List.map D.int w)) := by rw [List.map_append, List.map_take, List.map_drop]
    simp [hi, cut_to, cut_from1, hl0, hil, hwg]
    rw [e0]
    clear e0
    have c3 : cutD (List.map D.int sm) none (some 3) = (sm.take 3).map D.int := by
      have := cut_to (List.map D.int sm) 3
      rw [← List.map_take] at this
      exact this
    obtain ⟨x0, hx0⟩ : ∃ x0, sm[0]? = some x0 := ⟨_, List.getElem?_eq_getElem (by have := z.l2; omega)⟩
    have done1 : k.nx [some (.ptr h), some (cellsD sm), some (.int (lg : Int)), some (rowsD ws), some (rowsD (ws.take i ++ ws.drop (i + 1))), some (.int (way : Int)), some (.int (i : Int)), x7, x8, none] M1 := hk _ M1 _ base (by omega) s1
    have grow : ∀ sm' : Row, sm'.Sublist sm → w.length < 4 → WOK sm Lx ((ws.take i ++ ws.drop (i + 1)) ++ sm'.map fun x => w ++ [x]) := fun sm' hs' h4 => by
      have w1' := w1.mono z.le
      rw [sp] at w1'
      refine (w1'.grow z.nd sm' hs' (z.ext _ hwl h4)).perm ?_
      rw [List.append_assoc, List.append_assoc]
      exact List.Perm.append_left _ List.perm_append_comm
    refine ⟨by omega, ?_⟩
    by_cases e4 : w.length < 4
    · have e4' : (w.length : Int) < 4 := by omega
      by_cases e2 : (way : Int) = 2
      · rw [if_pos e2, if_pos e4', c3]
        refine lc_map (l := sm.take 3) (e := D.int) (fun x => rowD (w ++ [x])) (fun _ _ _ => trivial) (fun p hp x hx acc Qc hQ => ?_) (by simp; omega) ?_
        · simp [hil, hwg]
          exact ⟨by omega, by simpa [rowD] using hQ⟩
        · simp [e2]
          have g := hk _ M1 (some (.int (i : Int))) (grow (sm.take 3) (List.take_sublist _ _) e4) (by simp at bl ⊢; omega) s1
          refine ⟨by omega, ?_⟩
          simpa [rowsD, rowD, e2, Function.comp_def] using g
      · rw [if_neg e2]
        by_cases e3 : (way : Int) = 3
        · rw [if_pos e3, if_pos e4', hx0]
          simp
          have g := hk _ M1 (some (.int (i : Int))) (grow [x0] (by
            cases sm with
            | nil => simp at hx0
            | cons y sm => simp at hx0; subst hx0; simp) e4) (by simp at bl ⊢; omega) s1
          refine ⟨by omega, by omega, ?_⟩
          simpa [rowsD] using g
        · rw [if_neg e3]
          exact done1
    · have e4' : ¬ (w.length : Int) < 4 := by omega
      rw [if_neg e4', if_neg e4', ite_self, ite_self]
      exact done1
  · have : k.nx [some (.ptr h), some (cellsD sm), some (.int (lg : Int)), some (rowsD ws), some (rowsD oth), some (.int (way : Int)), x6, x7, x8, none] M := hk oth M x6 (w2.mono z.le) (by omega) hs
    by_cases c1 : ws = []
    · simp [two_if, c1]
      simpa [c1] using this
    · have c2 : way = 0 := by
        have : ¬ 0 < way := fun z => c ⟨c1, z⟩
        omega
      simp [two_if, c1, cok_rows, c2]
      simpa [c2] using this
theorem two_sw_ok {h : Addr} {sm : Row} {lg Lx way : Nat} {ws oth : List Row} {M : Mem} {k : DK} {x6 x7 x8 x9 : Option D} (w1 : WOK sm Lx ws) (w2 : WOK sm Lx oth) (l1 : ws.length ≤ 8) (l2 : oth.length ≤ 8) (hs : HS h M M)
    (hk : ∀ (ws' oth' : List Row) M', WOK sm Lx ws' → WOK sm Lx oth' → ws'.length ≤ 8 → oth'.length ≤ 8 → HS h M M' → k.nx [some (.ptr h), some (cellsD sm), some (.int (lg : Int)), some (rowsD ws'), some (rowsD oth'), some (.int (way : Int)), x6, x7, x8, x9] M') :
    two_sw s__law_draw k [some (.ptr h), some (cellsD sm), some (.int (lg : Int)), some (rowsD ws), some (rowsD oth), some (.int (way : Int)), x6, x7, x8, x9] M := by
  have nosw := fun M' s => hk ws oth M' w1 w2 l1 l2 s
  have sw := fun M' s => hk oth ws M' w2 w1 l2 l1 s
  obtain ⟨n, hn⟩ : ∃ n : Int, L2.atI [D.int 7, D.int 9] (if (3 : Int) < (sm.length : Int) then 1 else 0) = some (.int n) := by
    split
    · exact ⟨9, rfl⟩
    · exact ⟨7, rfl⟩
  simp [two_sw]
  rw [hn]
  simp
  split
  · refine ⟨h, 4, rfl, by decide, by decide, hs, fun r M1 a1 b1 s1 => ?_⟩
    simp
    split
    · exact sw M1 s1
    · exact nosw M1 s1
  · exact nosw M hs
structure TabOK (sm : Row) (L : Nat) (t : Tab) : Prop where
  ok : OkT t
  len : ∀ p ∈ t, p.2.length ≤ L
  al : ∀ p ∈ t, ∀ x ∈ p.2, x ∈ sm
  sz : t.length ≤ 10
theorem TabOK.of {sm : Row} {L : Nat} {t : Tab} {ws : List Row} (w : WOK sm L ws) (hz : ws.length ≤ 10) (h1 : (t.map (·.2)).Perm ws) (h2 : (t.map (·.1)).Nodup) : TabOK sm L t := by
  have mem : ∀ p ∈ t, p.2 ∈ ws := fun p hp => h1.mem_iff.mp (List.mem_map.mpr ⟨p, hp, rfl⟩)
  refine ⟨⟨?_, fun p hp => w.ne _ (mem p hp)⟩, fun p hp => w.len _ (mem p hp), fun p hp => w.al _ (mem p hp), ?_⟩
  · have a1 : (t.map (·.2)).Pairwise apartW := List.Perm.pairwise h1.symm w.ap fun h => h.symm
    rw [List.pairwise_map] at a1
    rw [List.nodup_iff_pairwise_ne, List.pairwise_map] at h2
    exact h2.and a1
  · have := h1.length_eq
    simp at this
    omega
def TwoR (t1 t2 : Tab) : Prop := ∃ (sm : Row) (lg Lx : Nat), Szs sm lg Lx ∧ TabOK sm Lx t1 ∧ TabOK sm Lx t2
theorem two_end_ok {h : Addr} {sm : Row} {lg Lx way : Nat} {ws oth : List Row} {M : Mem} {k : DK} {x6 x7 x8 x9 : Option D} (z : Szs sm lg Lx) (w1 : WOK sm Lx ws) (w2 : WOK sm Lx oth) (l1 : ws.length ≤ 8) (l2 : oth.length ≤ 8) (hs : HS h M M)
    (hk : ∀ (t1 t2 : Tab) M', TwoR t1 t2 → HS h M M' → k.rt (.tup [tabD t1, tabD t2]) M') :
    two_end s__law_table s__law_signs k [some (.ptr h), some (cellsD sm), some (.int (lg : Int)), some (rowsD ws), some (rowsD oth), some (.int (way : Int)), x6, x7, x8, x9] M := by
  simp [two_end]
  refine ⟨h, 10, rfl, by decide, by decide, hs, fun sg M1 nd ln s1 => ?_⟩
  simp
  refine ⟨h, ws, sg, rfl, by omega, by omega, by omega, nd, s1.self, fun t1 M2 p1 p2 s2 => ?_⟩
  have k1 := TabOK.of w1 (by omega) p1 p2
  simp
  split
  · refine ⟨h, ws, sg, rfl, by omega, by omega, by omega, nd, s2.self, fun t2 M3 q1 q2 s3 => ?_⟩
    simp
    exact hk t1 t2 M3 ⟨sm, lg, Lx, z, k1, TabOK.of w1 (by omega) q1 q2⟩ ((s1.trans s2).trans s3)
  · refine ⟨h, oth, sg, rfl, by omega, by omega, by omega, nd, s2.self, fun t2 M3 q1 q2 s3 => ?_⟩
    simp
    exact hk t1 t2 M3 ⟨sm, lg, Lx, z, k1, TabOK.of w2 (by omega) q1 q2⟩ ((s1.trans s2).trans s3)
theorem two_rest_ok {h : Addr} {sm : Row} {lg Lx : Nat} {M : Mem} {k : DK} {x3 x4 x5 x6 x7 x8 : Option D} (z : Szs sm lg Lx) (hs : HS h M M)
    (hk : ∀ (t1 t2 : Tab) M', TwoR t1 t2 → HS h M M' → k.rt (.tup [tabD t1, tabD t2]) M') :
    two_rest s__law_table s__law_signs s__law_draw s__law_words k [some (.ptr h), some (cellsD sm), some (.int (lg : Int)), x3, x4, x5, x6, x7, x8, none] M := by
  have zl := z.le
  have zx := z.x4
  obtain ⟨n, hn, hn6⟩ : ∃ n : Nat, L2.atI [D.int 4, D.int 6] (if (3 : Int) < (sm.length : Int) then 1 else 0) = some (.int (n : Int)) ∧ n ≤ 6 := by
    split
    · exact ⟨6, rfl, by decide⟩
    · exact ⟨4, rfl, by decide⟩
  simp [two_rest]
  refine ⟨h, sm, 2, lg, rfl, by decide, z.lg1, by omega, z.nd, z.l2, z.l8, hs, fun ws M1 w1 l1 s1 => ?_⟩
  simp
  rw [hn]
  simp [cut_to]
  refine ⟨h, sm, 2, lg, rfl, by decide, z.lg1, by omega, z.nd, z.l2, z.l8, s1.self, fun oth M2 w2 l2 s2 => ?_⟩
  have c7 : ∀ xs : List D, cutD xs none (some 7) = xs.take 7 := fun xs => cut_to xs 7
  simp [c7]
  refine ⟨h, 5, rfl, by decide, by decide, s2.self, fun way M3 a3 b3 s3 => ?_⟩
  obtain ⟨way, rfl⟩ := Int.eq_ofNat_of_zero_le a3
  simp
  have s13 := (s1.trans s2).trans s3
  have e1 : List.take n (List.map (fun w => D.tup (List.map D.int w)) ws) = (ws.take n).map fun w => D.tup (List.map D.int w) := by rw [List.map_take]
  have e2 : List.take 7 (List.map (fun w => D.tup (List.map D.int w)) oth) = (oth.take 7).map fun w => D.tup (List.map D.int w) := by rw [List.map_take]
  rw [e1, e2]
  refine two_if_ok (x9 := none) z (w1.sub (List.take_sublist _ _)) (w2.sub (List.take_sublist _ _)) (by simp; omega) (by simp; omega) s3.self fun oth' M4 y6 w4 l4 s4 => ?_
  simp
  refine two_sw_ok (Lx := Lx) ((w1.sub (List.take_sublist _ _)).mono z.le) w4 (by simp; omega) l4 s4.self fun ws5 oth5 M5 w5 v5 l5 m5 s5 => ?_
  exact two_end_ok z w5 v5 l5 m5 s5.self fun t1 t2 M6 r s6 => hk t1 t2 M6 r (((s13.trans s4).trans s5).trans s6)
def s__law_two : DSp := fun ds M q _ => ∃ h : Addr, ds = [.ptr h] ∧ HS h M M ∧ ∀ (t1 t2 : Tab) M', TwoR t1 t2 → HS h M M' → q (.tup [tabD t1, tabD t2]) M'
theorem ok__law_two : Okk (W__law_two s__law_table s__law_signs s__law_draw s__law_words s__law_bytes) s__law_two 1 10 := by
  rintro ds M q ex hl ⟨h, rfl, hs, hq⟩
  rw [two_eq]
  simp [startD]
  refine ⟨h, 8, rfl, by decide, by decide, hs, fun r M1 a1 b1 s1 => ?_⟩
  obtain ⟨m, hm, hm2, hm8⟩ : ∃ m : Nat, L2.atI [D.int 3, D.int 8] (if r = 0 then 1 else 0) = some (.int (m : Int)) ∧ 2 ≤ m ∧ m ≤ 8 := by
    split
    · exact ⟨8, rfl, by decide, by decide⟩
    · exact ⟨3, rfl, by decide, by decide⟩
  simp
  rw [hm]
  simp
  refine ⟨h, m, rfl, hm2, hm8, s1.self, fun sm M2 nd l2 l8 s2 => ?_⟩
  simp
  have s12 := s1.trans s2
  have hmax : (if (5 : Int) - (sm.length : Int) > 1 then (5 : Int) - (sm.length : Int) else 1) = ((max 1 (5 - sm.length) : Nat) : Int) := by split <;> omega
  have fin : ∀ (lg Lx : Nat) (M3 : Mem), Szs sm lg Lx → HS h M2 M3 → two_rest s__law_table s__law_signs s__law_draw s__law_words { nx := fun _ M' => q .non M', rt := q, ex := fun x _ M' => ex x M' } [some (.ptr h), some (cellsD sm), some (.int (lg : Int)), none, none, none, none, none, none, none] M3 := fun lg Lx M3 z s3 =>
    two_rest_ok z s3.self fun t1 t2 M4 r s4 => hq t1 t2 M4 r ((s12.trans s3).trans s4)
  by_cases c2 : sm.length = 2
  · have c2' : (sm.length : Int) = 2 := by omega
    simp [two_B, c2']
    refine ⟨h, 8, rfl, by decide, by decide, s2.self, fun r2 M3 a3 b3 s3 => ?_⟩
    simp
    split
    · have := fin 4 4 M3 ⟨nd, l2, by omega, by decide, by decide, by decide, fun n h1 h2 => by omega, .inl c2⟩ s3
      exact this
    · have := fin 3 4 M3 ⟨nd, l2, by omega, by decide, by decide, by decide, fun n h1 h2 => by omega, .inl c2⟩ s3
      exact this
  · have c2' : ¬ (sm.length : Int) = 2 := by omega
    have hs2 : HS h M2 M2 := s2.self
    simp [two_B, c2']
    by_cases c3 : sm.length = 3
    · have := fin 2 3 M2 ⟨nd, l2, by omega, by decide, by decide, by decide, fun n h1 h2 => by omega, .inr (.inl ⟨c3, by decide⟩)⟩ hs2
      simpa [c3] using this
    · have := fin 1 2 M2 ⟨nd, l2, by omega, by decide, by decide, by decide, fun n h1 h2 => by omega, .inr (.inr (by decide))⟩ hs2
      have e : (if (1 : Int) < 5 - (sm.length : Int) then (5 : Int) - (sm.length : Int) else 1) = 1 := by split <;> omega
      rw [e]
      exact this
end DL
namespace DL
open PySem PySem.Spec L2
def s__law_open : DSp := fun ds M q _ => ∃ (ns : List Int) (pl : Nat), ds = [cellsD ns, .int (pl : Int)] ∧ pl ≤ 100 ∧ ns.length ≤ 1000 ∧ ∀ h M', M h = none → HS h (M.set h (.lst [])) M' → q (.ptr h) M'
theorem ok__law_open : Okk W__law_open s__law_open 2 6 := by
  rintro ds M q ex hl ⟨ns, pl, rfl, hp, hn, hq⟩
  have hsz := sz_small
  have c63 : cutD (List.map D.int ns) none (some 63) = List.take 63 (List.map D.int ns) := cut_to _ 63
  simp [W__law_open, startD, c63]
  rw [← List.map_take]
  refine lc_map (l := ns.take 63) (e := D.int) (fun x => .int (if x < 0 then -x else x)) (fun _ _ _ => trivial) (fun p hp x hx acc Qc hQ => ?_) (by simp; omega) ?_
  · simp
    exact hQ
  have e1 : ((ns.take 63).map fun x => D.int (if x < 0 then -x else x)) = ((ns.take 63).map fun x => if x < 0 then -x else x).map D.int := by rw [List.map_map]; rfl
  rw [e1]
  have hnn : ∀ x ∈ (ns.take 63).map (fun x : Int => if x < 0 then -x else x), 0 ≤ x := fun x hx => by
    obtain ⟨y, _, rfl⟩ := List.mem_map.mp hx
    split <;> omega
  have hl2 : ((ns.take 63).map (fun x : Int => if x < 0 then -x else x)).length ≤ 63 := by simp; omega
  generalize (ns.take 63).map (fun x : Int => if x < 0 then -x else x) = cs0 at *
  by_cases h0 : cs0 = []
  · simp [h0]
    refine ⟨⟨by decide, by decide, by decide⟩, cmul_l (by decide) (by decide), by decide, fun p hp => ?_⟩
    exact hq p _ hp ⟨0, 1 + 101 * (pl : Int), [0], by decide, by simp, by rw [Mem.set_set]; rfl⟩
  · have hl0 := List.length_pos_iff.mpr h0
    obtain ⟨k, hk, hkl⟩ := mod_at (n := cs0.length) (r := (pl : Int)) hl0 (by omega)
    have hge := hnn cs0[k] (List.getElem_mem hkl)
    have pr := rot_perm cs0 k
    have fin : ∀ a p, 0 ≤ a → M p = none → q (.ptr p) (M.set p (.lst [.int a, .int (1 + 101 * (pl : Int)), .lst ((cs0.drop k ++ cs0.take k).map .int)])) := fun a p ha hp =>
      hq p _ hp ⟨a, 1 + 101 * (pl : Int), cs0.drop k ++ cs0.take k, ha, fun e => h0 (by have := pr.length_eq; rw [e] at this; exact List.eq_nil_of_length_eq_zero (by simpa using this.symm)), by rw [Mem.set_set]⟩
    simp at fin
    simp [h0, hk, hkl, hl0, cut_from, cut_to]
    refine ⟨⟨by decide, by decide, by decide⟩, ?_⟩
    split
    · split
      · exact ⟨cmul_l (by decide) (by decide), by omega, fun p hp => fin _ p hge hp⟩
      · exact ⟨cmul_l (by decide) (by decide), by omega, fun p hp => fin _ p (by decide) hp⟩
    · exact ⟨cmul_l (by decide) (by decide), by omega, fun p hp => fin _ p (by decide) hp⟩
/-! ### a list of states is told -/
theorem ck_lstD {L : List D} (h : (D.lst L).cok = true) : (D.lst L).cok = true := h
mutual
theorem eqb_refl : ∀ d : D, d.lay = true → d.eqb d = true
  | .non, _ => by simp
  | .bl _, _ => by simp
  | .int _, _ => by simp
  | .str _, _ => by simp
  | .tup ds, h => by simp; exact eqbs_refl ds h
  | .lst ds, h => by simp; exact eqbs_refl ds h
  | .ptr _, h => by cases h
  | .ty _, h => by cases h
  | .dct _ _, h => by cases h
  | .obj _ _, h => by cases h
theorem eqbs_refl : ∀ ds : List D, D.lays ds = true → eqbs ds ds = true
  | [], _ => rfl
  | d :: ds, h => by
    simp only [D.lays, Bool.and_eq_true] at h
    simp [eqb_refl d h.1, eqbs_refl ds h.2]
end
theorem kb_bool : kitB "bool" "bool" = some true := by unfold kitB; rw [if_pos (by decide)]
def s__law_tells (C : Addr) : DSp := fun ds M q _ => ∃ t one L U, ∃ due : Bool, ds = [codeD C one, codeD C t, .lst L, .bl due] ∧ (D.lst L).cok = true ∧ Uni t one U ∧ (due = true ↔ ∀ s, Reach t one s → goodS t L s) ∧ q (.bl true) M
theorem ok__law_tells (C : Addr) : Okk (W__law_tells (s_shows_apart C)) (s__law_tells C) 4 6 := by
  rintro ds M q ex hl ⟨t, one, L, U, due, rfl, hL, u, hd, h⟩
  simp [W__law_tells, startD]
  refine ⟨t, one, L, U, rfl, hL, u, fun b hb => ?_⟩
  have e : b = due := by
    rw [Bool.eq_iff_iff, hb, hd]
  subst e
  have hr : eqbs L L = true := eqbs_refl L (by
    have := hL
    rw [cok_eq, Bool.and_eq_true] at this
    exact this.1)
  simp [rIsi, D.tyN]
  rw [kb_bool]
  simp [hL, hr]
  exact h
end DL
namespace DL
open PySem PySem.Spec L2
/-! ### the two searches walk alike -/
theorem pys_ints (l : List Int) : D.pys (l.map D.int) = l.map PyData.int := by rw [pys_map, List.map_map]; rfl
theorem rowLt_iff (a b : Row) : rowLt a b = decide (a < b) := by
  unfold rowLt D.ltb
  show PySem.W.dataLt (.tuple (D.pys (a.map D.int))) (.tuple (D.pys (b.map D.int))) = _
  rw [pys_ints, pys_ints, PySem.W.dataLt_tuple]
  exact PySem.W.dataLt_ints a b
theorem row_tri {a b : Row} (h1 : ¬ rowLt a b = true) (h2 : ¬ rowLt b a = true) : a = b := by
  rw [rowLt_iff, decide_eq_true_eq] at h1 h2
  exact List.le_antisymm (List.not_lt.mp h2) (List.not_lt.mp h1)
theorem row_asym {a b : Row} (h1 : rowLt a b = true) : ¬ rowLt b a = true := by
  rw [rowLt_iff, decide_eq_true_eq] at *
  exact fun h2 => List.lt_irrefl a (List.lt_trans h1 h2)
theorem minR_comm (a b : Row) : minR a b = minR b a := by
  unfold minR
  by_cases h : rowLt b a = true
  · rw [if_pos h, if_neg (row_asym h)]
  · rw [if_neg h]
    by_cases h2 : rowLt a b = true
    · rw [if_pos h2]
    · rw [if_neg h2, row_tri h2 h]
theorem maxR_comm (a b : Row) : maxR a b = maxR b a := by
  unfold maxR
  by_cases h : rowLt a b = true
  · rw [if_pos h, if_neg (row_asym h)]
  · rw [if_neg h]
    by_cases h2 : rowLt b a = true
    · rw [if_pos h2]
    · rw [if_neg h2, row_tri h h2]
def swp : Option (Row × Row) → Option (Row × Row)
  | none => none
  | some (a, b) => some (b, a)
theorem setP_swap (t : Tab) : ∀ (n : Nat) (l r : Row), l.length = r.length → setP t n r l = swp (setP t n l r)
  | 0, _, _, _ => rfl
  | n + 1, l, r, h => by
    rw [setP, setP]
    by_cases e : l = []
    · have e' : r = [] := List.eq_nil_of_length_eq_zero (by rw [← h, e]; rfl)
      rw [if_pos e, if_pos e']; rfl
    · have e' : ¬ r = [] := fun z => e (List.eq_nil_of_length_eq_zero (by rw [h, z]; rfl))
      rw [if_neg e, if_neg e']
      cases h1 : entP t l with
      | none => cases h2 : entP t r <;> rfl
      | some a =>
        cases h2 : entP t r with
        | none => rfl
        | some b =>
          by_cases c : a = b
          · subst c
            simp only [if_true]
            exact setP_swap t n _ _ (by simp [h])
          · simp only [if_neg c, if_neg (Ne.symm c)]
            rfl
theorem setP'_swap (t : Tab) {l r : Row} (h : l.length = r.length) : setP' t r l = swp (setP' t l r) := by
  unfold setP'
  rw [← h]
  exact setP_swap t _ l r h
theorem setP_same (t : Tab) : ∀ (n : Nat) (l : Row), l.length < n → ∃ a, setP t n l l = some (a, a)
  | 0, _, h => absurd h (Nat.not_lt_zero _)
  | n + 1, l, h => by
    rw [setP]
    by_cases e : l = []
    · rw [if_pos e]; exact ⟨_, rfl⟩
    · rw [if_neg e]
      cases h1 : entP t l with
      | none => exact ⟨_, rfl⟩
      | some a =>
        simp only [if_true]
        obtain ⟨g, i⟩ := a
        have := entP_ge h1
        have := List.length_pos_iff.mpr e
        exact setP_same t n _ (by simp; omega)
theorem setP'_same (t : Tab) (l : Row) : ∃ a, setP' t l l = some (a, a) := setP_same t _ l (Nat.lt_succ_self _)
/-- what is left is a drop, and short -/
theorem setP_bound (t : Tab) : ∀ (n : Nat) (l r a b : Row), l.length < n → l.length = r.length → setP t n l r = some (a, b) → (∃ k, a = l.drop k ∧ b = r.drop k) ∧ (a = [] ∨ entP t a = none ∨ entP t b = none)
  | 0, _, _, _, _, h, _, _ => absurd h (Nat.not_lt_zero _)
  | n + 1, l, r, a, b, h, hl, q => by
    rw [setP] at q
    by_cases e : l = []
    · rw [if_pos e] at q
      cases q
      have e' : r = [] := List.eq_nil_of_length_eq_zero (by rw [← hl, e]; rfl)
      exact ⟨⟨0, by rw [e]; rfl, by rw [e']; rfl⟩, .inl rfl⟩
    · rw [if_neg e] at q
      cases h1 : entP t l with
      | none => rw [h1] at q; cases q; exact ⟨⟨0, rfl, rfl⟩, .inr (.inl h1)⟩
      | some x =>
        cases h2 : entP t r with
        | none => rw [h1, h2] at q; cases q; exact ⟨⟨0, rfl, rfl⟩, .inr (.inr h2)⟩
        | some y =>
          rw [h1, h2] at q
          simp only at q
          by_cases c : x = y
          · rw [if_pos c] at q
            obtain ⟨g, i⟩ := x
            have := entP_ge h1
            have := List.length_pos_iff.mpr e
            obtain ⟨⟨k, k1, k2⟩, k3⟩ := setP_bound t n _ _ a b (by simp; omega) (by simp [hl]) q
            exact ⟨⟨i + k, by rw [k1, List.drop_drop], by rw [k2, List.drop_drop]⟩, k3⟩
          · rw [if_neg c] at q; cases q
theorem besP_swap (t : Tab) {x y : Row × Row} {u : Bool} (h : x.2.length = y.2.length) : besP t y x u = besP t x y u := by
  unfold besP
  rw [Nat.min_comm y.1.length]
  generalize hm : min x.1.length y.1.length = m
  have m1 : m ≤ x.1.length := by omega
  have m2 : m ≤ y.1.length := by omega
  rw [setP'_swap t (l := x.2 ++ x.1.take m) (r := y.2 ++ y.1.take m) (by simp; omega)]
  cases setP' t (x.2 ++ x.1.take m) (y.2 ++ y.1.take m) with
  | none => rfl
  | some w =>
    obtain ⟨a, b⟩ := w
    show (if y.1.length > m then some (y.1.drop m, b, a, u) else if x.1.length > m then some (x.1.drop m, a, b, u) else some ([], minR b a, maxR b a, u)) = (if x.1.length > m then some (x.1.drop m, a, b, u) else if y.1.length > m then some (y.1.drop m, b, a, u) else some ([], minR a b, maxR a b, u))
    by_cases c1 : y.1.length > m
    · have c2 : ¬ x.1.length > m := by omega
      rw [if_pos c1, if_neg c2, if_pos c1]
    · rw [if_neg c1, if_neg c1]
      by_cases c2 : x.1.length > m
      · rw [if_pos c2, if_pos c2]
      · rw [if_neg c2, if_neg c2, minR_comm, maxR_comm]
theorem grown_bes (t : Tab) (s : St4) (w : Row) : (grownP t s w).map (·.1) = besP t (s.1, s.2.1) (w, s.2.2.1) s.2.2.2 := by
  unfold grownP besP
  simp only
  generalize hm : min s.1.length w.length = m
  have m1 : m ≤ s.1.length := by omega
  have m2 : m ≤ w.length := by omega
  cases setP' t (s.2.1 ++ s.1.take m) (s.2.2.1 ++ w.take m) with
  | none => rfl
  | some x =>
    obtain ⟨a, b⟩ := x
    simp only
    by_cases c1 : w.length > m
    · have c2 : ¬ s.1.length > m := by omega
      rw [if_pos c1, if_neg c2, if_pos c1]; rfl
    · rw [if_neg c1, if_neg c1]
      by_cases c2 : s.1.length > m
      · rw [if_pos c2, if_neg (fun z => by omega)]; rfl
      · rw [if_neg c2]
        have c3 : s.1.length = m := by omega
        by_cases c4 : rowLt b a = true
        · rw [if_pos ⟨c3, c4⟩]
          unfold minR maxR
          rw [if_pos c4, if_neg (row_asym c4)]; rfl
        · rw [if_neg (fun z => c4 z.2)]
          unfold minR maxR
          rw [if_neg c4]
          have : s.1.drop m = [] := by rw [← c3, List.drop_length]
          simp only [Option.map_some, this]
          by_cases c5 : rowLt a b = true
          · rw [if_pos c5]
          · rw [if_neg c5, row_tri c5 c4]
end DL
namespace DL
open PySem PySem.Spec L2
/-- a state that the search may come to -/
structure Iv (s : St4) : Prop where
  len : s.2.1.length = s.2.2.1.length
  al : s.2.2.2 = false → s.1 = [] ∧ s.2.1 = s.2.2.1
theorem mem_alikeA {t : Tab} {s : St4} : ∀ {l : Tab} {x : Stp}, x ∈ alikeA t s l ↔ ∃ A p B, l = A ++ p :: B ∧ (x = alike0 t s p ∨ ∃ r ∈ B, alikeG t s p r = some x)
  | [], x => by
    constructor
    · intro h; simp [alikeA] at h
    · rintro ⟨A, p, B, e, _⟩; cases A <;> cases e
  | p :: l, x => by
    rw [alikeA, List.mem_append, mem_alikeA (l := l)]
    constructor
    · rintro (h | ⟨A, p', B, e, h⟩)
      · rcases List.mem_cons.mp h with h | h
        · exact ⟨[], p, l, rfl, .inl h⟩
        · obtain ⟨r, hr, e⟩ := List.mem_filterMap.mp h
          exact ⟨[], p, l, rfl, .inr ⟨r, hr, e⟩⟩
      · exact ⟨p :: A, p', B, by rw [e]; rfl, h⟩
    · rintro ⟨A, p', B, e, h⟩
      cases A with
      | nil =>
        cases e
        left
        rcases h with h | ⟨r, hr, h⟩
        · rw [h]; exact List.mem_cons_self
        · exact List.mem_cons_of_mem _ (List.mem_filterMap.mpr ⟨r, hr, h⟩)
      | cons a A =>
        cases e
        exact .inr ⟨A, p', B, rfl, h⟩
theorem two_in {α : Type} {l : List α} {p r : α} (hp : p ∈ l) (hr : r ∈ l) (h : p ≠ r) : (∃ A B, l = A ++ p :: B ∧ r ∈ B) ∨ ∃ A B, l = A ++ r :: B ∧ p ∈ B := by
  obtain ⟨A, B, rfl⟩ := List.append_of_mem hp
  rcases List.mem_append.mp hr with q | q
  · obtain ⟨A1, A2, rfl⟩ := List.append_of_mem q
    exact .inr ⟨A1, A2 ++ p :: B, by simp, by simp⟩
  · rcases List.mem_cons.mp q with q | q
    · exact absurd q.symm h
    · exact .inl ⟨A, B, rfl, q⟩
theorem mem_nextL {t one : Tab} {s x : St4} : x ∈ nextL t one s ↔ ∃ p ∈ one, some x ∈ nextOB t one s p := by
  unfold nextL
  simp only [List.mem_filterMap, id_eq, exists_eq_right, List.mem_flatMap]
theorem minR_self (a : Row) : minR a a = a := by unfold minR; split <;> rfl
theorem maxR_self (a : Row) : maxR a a = a := by unfold maxR; split <;> rfl
theorem bes_same (t : Tab) (w l : Row) (u : Bool) : besP t (w, l) (w, l) u = some (([], ((setP' t (l ++ w) (l ++ w)).getD ([], [])).1, ((setP' t (l ++ w) (l ++ w)).getD ([], [])).2, u)) := by
  unfold besP
  simp only [Nat.min_self, List.take_length]
  obtain ⟨a, ha⟩ := setP'_same t (l ++ w)
  rw [ha]
  simp [minR_self, maxR_self]
theorem next_iff {t one : Tab} (h1 : OkT one) {s : St4} (hs : Iv s) (x : St4) : x ∈ nextS t (srtT one) s ↔ x ∈ nextL t one s := by
  obtain ⟨rs, left, right, u⟩ := s
  have hl := hs.len
  have ha := hs.al
  simp only at hl ha
  rw [mem_nextL]
  unfold nextS nextP
  simp only
  cases u with
  | true =>
    simp only [if_true, List.map_flatMap, List.mem_flatMap]
    have core : ∀ p : Int × Row, x ∈ (nextB t (rs, left, right, true) p).map (·.1) ↔ some x ∈ nextOB t one (rs, left, right, true) p := by
      intro p
      unfold nextB nextOB
      simp only [Bool.true_eq_false, if_false]
      by_cases c : rs = []
      · rw [if_pos c, if_pos c]; simp
      · rw [if_neg c, if_neg c]
        have := grown_bes t (rs, left, right, true) p.2
        simp only at this
        rw [← this]
        cases grownP t (rs, left, right, true) p.2 with
        | none => simp
        | some z => simp
    constructor
    · rintro ⟨p, hp, h⟩; exact ⟨p, mem_srt.mp hp, (core p).mp h⟩
    · rintro ⟨p, hp, h⟩; exact ⟨p, mem_srt.mpr hp, (core p).mpr h⟩
  | false =>
    obtain ⟨rfl, rfl⟩ := ha rfl
    simp only [Bool.false_eq_true, if_false]
    have bes : ∀ p r : Int × Row, p ∈ one → r ∈ one → p ≠ r → besP t (p.2, left) (r.2, left) (!decide (r.1 = p.1)) = besP t (p.2, left) (r.2, left) true := fun p r hp hr hne => by
      have : r.1 ≠ p.1 := fun e => by
        rcases two_in hp hr hne with ⟨A, B, rfl, q⟩ | ⟨A, B, rfl, q⟩
        · have := (List.pairwise_cons.mp (List.pairwise_append.mp h1.good).2.1).1 r q
          exact this.1 e.symm
        · have := (List.pairwise_cons.mp (List.pairwise_append.mp h1.good).2.1).1 p q
          exact this.1 e
      simp [this]
    constructor
    · intro h
      obtain ⟨z, hz, rfl⟩ := List.mem_map.mp h
      obtain ⟨A, p, B, e, h⟩ := mem_alikeA.mp hz
      have hp : p ∈ one := mem_srt.mp (by rw [e]; simp)
      refine ⟨p, hp, ?_⟩
      unfold nextOB
      simp only [if_true]
      rcases h with rfl | ⟨r, hr, h⟩
      · refine List.mem_map.mpr ⟨p, hp, ?_⟩
        rw [bes_same]
        simp [alike0]
      · have hr1 : r ∈ one := mem_srt.mp (by rw [e]; simp [hr])
        have hne : p ≠ r := by
          rintro rfl
          have g := h1.srt.good
          rw [e] at g
          exact ((List.pairwise_cons.mp (List.pairwise_append.mp g).2.1).1 p hr).1 rfl
        refine List.mem_map.mpr ⟨r, hr1, ?_⟩
        rw [bes p r hp hr1 hne]
        have := grown_bes t (p.2, left, left, true) r.2
        simp only at this
        rw [← this]
        unfold alikeG at h
        simp only at h
        obtain ⟨y, hy, rfl⟩ := Option.map_eq_some_iff.mp h
        rw [hy]; rfl
    · rintro ⟨p, hp, h⟩
      unfold nextOB at h
      simp only [if_true] at h
      obtain ⟨r, hr, h⟩ := List.mem_map.mp h
      by_cases hne : p = r
      · subst hne
        rw [bes_same] at h
        simp at h
        obtain ⟨A, B, e⟩ := List.append_of_mem (mem_srt.mpr hp)
        refine List.mem_map.mpr ⟨_, mem_alikeA.mpr ⟨A, p, B, e, .inl rfl⟩, ?_⟩
        rw [← h]
        rfl
      · rw [bes p r hp hr hne] at h
        have key : ∀ p r : Int × Row, (∃ A B, srtT one = A ++ p :: B ∧ r ∈ B) → besP t (p.2, left) (r.2, left) true = some x → x ∈ (alikeA t ([], left, left, false) (srtT one)).map (·.1) := by
          rintro p r ⟨A, B, e, q⟩ h
          have g := grown_bes t (p.2, left, left, true) r.2
          simp only at g
          rw [h] at g
          obtain ⟨y, hy, hyx⟩ := Option.map_eq_some_iff.mp g
          refine List.mem_map.mpr ⟨(y.1, [p.1], [r.1], y.2), mem_alikeA.mpr ⟨A, p, B, e, .inr ⟨r, q, ?_⟩⟩, hyx⟩
          unfold alikeG
          simp only [hy, Option.map_some]
        rcases two_in (mem_srt.mpr hp) (mem_srt.mpr hr) hne with q | q
        · exact key p r q h
        · refine key r p q ?_
          rw [besP_swap (x := (p.2, left)) (y := (r.2, left)) t rfl]
          exact h
end DL
namespace DL
open PySem PySem.Spec L2
/-! ### the finite world -/
def rowsUp (sm : Row) : Nat → List Row
  | 0 => [[]]
  | n + 1 => [] :: (rowsUp sm n).flatMap fun r => sm.map fun x => x :: r
theorem mem_rowsUp {sm : Row} : ∀ {n : Nat} {w : Row}, w ∈ rowsUp sm n ↔ w.length ≤ n ∧ ∀ x ∈ w, x ∈ sm
  | 0, w => by
    rw [rowsUp, List.mem_singleton]
    constructor
    · rintro rfl; simp
    · intro h; exact List.eq_nil_of_length_eq_zero (by omega)
  | n + 1, w => by
    rw [rowsUp, List.mem_cons, List.mem_flatMap]
    constructor
    · rintro (rfl | ⟨r, hr, h⟩)
      · simp
      · obtain ⟨x, hx, rfl⟩ := List.mem_map.mp h
        obtain ⟨h1, h2⟩ := mem_rowsUp.mp hr
        refine ⟨by simp; omega, fun y hy => ?_⟩
        rcases List.mem_cons.mp hy with rfl | hy
        · exact hx
        · exact h2 y hy
    · rintro ⟨h1, h2⟩
      cases w with
      | nil => exact .inl rfl
      | cons x r =>
        refine .inr ⟨r, mem_rowsUp.mpr ⟨by simp at h1; omega, fun y hy => h2 y (by simp [hy])⟩, List.mem_map.mpr ⟨x, h2 x (by simp), rfl⟩⟩
theorem flatMap_len {α β : Type} {f : α → List β} {m : Nat} (h : ∀ x, (f x).length = m) : ∀ l : List α, (l.flatMap f).length = l.length * m
  | [] => by simp
  | x :: l => by rw [List.flatMap_cons, List.length_append, h, flatMap_len h l, List.length_cons, Nat.succ_mul]; omega
theorem rowsUp_len (sm : Row) (n : Nat) : (rowsUp sm (n + 1)).length = 1 + (rowsUp sm n).length * sm.length := by
  rw [rowsUp, List.length_cons, flatMap_len (m := sm.length) (by simp)]; omega
theorem rowsUp_small {sm : Row} {lg Lx : Nat} (z : Szs sm lg Lx) : (rowsUp sm Lx).length ≤ 73 := by
  have e0 : (rowsUp sm 0).length = 1 := rfl
  have e1 : (rowsUp sm 1).length = 1 + sm.length := by rw [rowsUp_len, e0]; omega
  have e2 : (rowsUp sm 2).length = 1 + (1 + sm.length) * sm.length := by rw [rowsUp_len, e1]
  have e3 : (rowsUp sm 3).length = 1 + (1 + (1 + sm.length) * sm.length) * sm.length := by rw [rowsUp_len, e2]
  have e4 : (rowsUp sm 4).length = 1 + (1 + (1 + (1 + sm.length) * sm.length) * sm.length) * sm.length := by rw [rowsUp_len, e3]
  have x4 := z.x4
  have l8 := z.l8
  have small2 : (rowsUp sm 2).length ≤ 73 := by
    rw [e2]
    have : (1 + sm.length) * sm.length ≤ 9 * 8 := Nat.mul_le_mul (by omega) l8
    omega
  rcases (by omega : Lx = 0 ∨ Lx = 1 ∨ Lx = 2 ∨ Lx = 3 ∨ Lx = 4) with rfl | rfl | rfl | rfl | rfl
  · rw [e0]; decide
  · rw [e1]; omega
  · exact small2
  · have : sm.length = 2 ∨ sm.length = 3 := by have := z.cnt; omega
    rw [e3]
    rcases this with q | q <;> rw [q] <;> decide
  · have : sm.length = 2 := by have := z.cnt; omega
    rw [e4, this]; decide
open Classical in
noncomputable def univ (sm : Row) (L : Nat) : List St4 := ((rowsUp sm L).flatMap fun a => (rowsUp sm L).flatMap fun b => (rowsUp sm L).flatMap fun c => [(a, b, c, true), (a, b, c, false)]).filter fun s => decide (Iv s)
theorem mem_univ {sm : Row} {L : Nat} {s : St4} : s ∈ univ sm L ↔ (s.1 ∈ rowsUp sm L ∧ s.2.1 ∈ rowsUp sm L ∧ s.2.2.1 ∈ rowsUp sm L) ∧ Iv s := by
  obtain ⟨a, b, c, u⟩ := s
  unfold univ
  simp only [List.mem_filter, decide_eq_true_eq, List.mem_flatMap]
  refine and_congr ⟨?_, ?_⟩ Iff.rfl
  · rintro ⟨a', ha, b', hb, c', hc, h⟩
    simp at h
    rcases h with ⟨rfl, rfl, rfl, _⟩ | ⟨rfl, rfl, rfl, _⟩ <;> exact ⟨ha, hb, hc⟩
  · rintro ⟨ha, hb, hc⟩
    exact ⟨a, ha, b, hb, c, hc, by cases u <;> simp⟩
theorem univ_len {sm : Row} {lg Lx : Nat} (z : Szs sm lg Lx) : (univ sm Lx).length ≤ 1000000 := by
  unfold univ
  refine Nat.le_trans (List.length_filter_le _ _) ?_
  have hn := rowsUp_small z
  generalize (rowsUp sm Lx) = R at *
  rw [flatMap_len (m := R.length * (R.length * 2)) fun a => by
    rw [flatMap_len (m := R.length * 2) fun b => by
      rw [flatMap_len (m := 2) fun c => rfl]]]
  have h2 : R.length * 2 ≤ 146 := by omega
  have h3 : R.length * (R.length * 2) ≤ 73 * 146 := Nat.mul_le_mul hn h2
  have h4 : R.length * (R.length * (R.length * 2)) ≤ 73 * (73 * 146) := Nat.mul_le_mul hn h3
  omega
section
variable {sm : Row} {L : Nat} {t one : Tab}
theorem rows_drop {w : Row} (h : w ∈ rowsUp sm L) (k : Nat) : w.drop k ∈ rowsUp sm L := by
  rw [mem_rowsUp] at *
  exact ⟨by simp; omega, fun x hx => h.2 x (List.mem_of_mem_drop hx)⟩
theorem rows_nil : ([] : Row) ∈ rowsUp sm L := mem_rowsUp.mpr ⟨Nat.zero_le _, fun _ h => by cases h⟩
theorem ent_short (k : TabOK sm L t) {a : Row} (h : entP (srtT t) a = none) : a.length ≤ L := by
  have := entP_spec k.ok.srt a
  rw [h] at this
  cases this with
  | more p _ hp hr => exact Nat.le_trans hr.length_le (k.len p (mem_srt.mp hp))
theorem set_rows (k : TabOK sm L t) {l r a b : Row} (hl : l.length = r.length) (h1 : ∀ x ∈ l, x ∈ sm) (h2 : ∀ x ∈ r, x ∈ sm) (e : setP' (srtT t) l r = some (a, b)) : a ∈ rowsUp sm L ∧ b ∈ rowsUp sm L ∧ a.length = b.length := by
  obtain ⟨⟨i, k1, k2⟩, k3⟩ := setP_bound (srtT t) _ l r a b (Nat.lt_succ_self _) hl e
  have hab : a.length = b.length := by rw [k1, k2]; simp [hl]
  have hlen : a.length ≤ L := by
    rcases k3 with rfl | q | q
    · exact Nat.zero_le _
    · exact ent_short k q
    · rw [hab]; exact ent_short k q
  refine ⟨mem_rowsUp.mpr ⟨hlen, fun x hx => ?_⟩, mem_rowsUp.mpr ⟨by omega, fun x hx => ?_⟩, hab⟩
  · rw [k1] at hx; exact h1 x (List.mem_of_mem_drop hx)
  · rw [k2] at hx; exact h2 x (List.mem_of_mem_drop hx)
theorem minR_or (a b : Row) : (minR a b = a ∧ maxR a b = b) ∨ (minR a b = b ∧ maxR a b = a) := by
  unfold minR maxR
  by_cases c1 : rowLt b a = true
  · rw [if_pos c1, if_neg (row_asym c1)]; exact .inr ⟨rfl, rfl⟩
  · rw [if_neg c1]
    by_cases c2 : rowLt a b = true
    · rw [if_pos c2]; exact .inl ⟨rfl, rfl⟩
    · rw [if_neg c2]; exact .inl ⟨rfl, row_tri c2 c1⟩
theorem bes_rows (k : TabOK sm L t) {x y : Row × Row} {u : Bool} {s : St4} (hl : x.2.length = y.2.length) (h1 : x.1 ∈ rowsUp sm L) (h2 : x.2 ∈ rowsUp sm L) (h3 : y.1 ∈ rowsUp sm L) (h4 : y.2 ∈ rowsUp sm L) (e : besP (srtT t) x y u = some s) :
    (s.1 ∈ rowsUp sm L ∧ s.2.1 ∈ rowsUp sm L ∧ s.2.2.1 ∈ rowsUp sm L) ∧ s.2.1.length = s.2.2.1.length ∧ s.2.2.2 = u := by
  unfold besP at e
  generalize hm : min x.1.length y.1.length = m at e
  have al : ∀ (a b : Row), a ∈ rowsUp sm L → b ∈ rowsUp sm L → ∀ z ∈ a ++ b.take m, z ∈ sm := fun a b ha hb z hz => by
    rcases List.mem_append.mp hz with hz | hz
    · exact (mem_rowsUp.mp ha).2 z hz
    · exact (mem_rowsUp.mp hb).2 z (List.mem_of_mem_take hz)
  cases q : setP' (srtT t) (x.2 ++ x.1.take m) (y.2 ++ y.1.take m) with
  | none => rw [q] at e; cases e
  | some w =>
    obtain ⟨a, b⟩ := w
    rw [q] at e
    simp only at e
    obtain ⟨ra, rb, rl⟩ := set_rows k (by simp; omega) (al _ _ h2 h1) (al _ _ h4 h3) q
    split at e
    · cases e; exact ⟨⟨rows_drop h1 _, ra, rb⟩, rl, rfl⟩
    · split at e
      · cases e; exact ⟨⟨rows_drop h3 _, rb, ra⟩, rl.symm, rfl⟩
      · cases e
        rcases minR_or a b with ⟨e1, e2⟩ | ⟨e1, e2⟩
        · simp only [e1, e2]; exact ⟨⟨rows_nil, ra, rb⟩, rl, trivial⟩
        · simp only [e1, e2]; exact ⟨⟨rows_nil, rb, ra⟩, rl.symm, trivial⟩
theorem tab_rows (k : TabOK sm L one) {p : Int × Row} (hp : p ∈ one) : p.2 ∈ rowsUp sm L := mem_rowsUp.mpr ⟨k.len p hp, k.al p hp⟩
theorem univ_next (k1 : TabOK sm L one) (k2 : TabOK sm L t) {s x : St4} (hs : s ∈ univ sm L) (hx : x ∈ nextL (srtT t) one s) : x ∈ univ sm L := by
  obtain ⟨rs, left, right, u⟩ := s
  obtain ⟨⟨r1, r2, r3⟩, iv⟩ := mem_univ.mp hs
  have hl := iv.len
  have ha := iv.al
  simp only at r1 r2 r3 hl ha
  obtain ⟨p, hp, h⟩ := mem_nextL.mp hx
  have rp := tab_rows k1 hp
  unfold nextOB at h
  simp only at h
  cases u with
  | false =>
    obtain ⟨rfl, rfl⟩ := ha rfl
    simp only [if_true] at h
    obtain ⟨r, hr, h⟩ := List.mem_map.mp h
    have rr := tab_rows k1 hr
    obtain ⟨q1, q2, q3⟩ := bes_rows k2 (x := (p.2, left)) (y := (r.2, left)) rfl rp r2 rr r2 h
    refine mem_univ.mpr ⟨q1, q2, fun e => ?_⟩
    rw [q3] at e
    have e : r.1 = p.1 := by simpa using e
    have : p = r := by
      by_cases hne : p = r
      · exact hne
      · rcases two_in hp hr hne with ⟨A, B, rfl, q⟩ | ⟨A, B, rfl, q⟩
        · exact absurd e.symm ((List.pairwise_cons.mp (List.pairwise_append.mp k1.ok.good).2.1).1 r q).1
        · exact absurd e ((List.pairwise_cons.mp (List.pairwise_append.mp k1.ok.good).2.1).1 p q).1
    subst this
    rw [bes_same] at h
    cases h
    obtain ⟨a, ha⟩ := setP'_same (srtT t) (left ++ p.2)
    simp [ha]
  | true =>
    simp only [Bool.true_eq_false, if_false] at h
    split at h
    · simp at h
      rcases h with rfl | rfl
      · exact mem_univ.mpr ⟨⟨rp, r2, r3⟩, hl, fun e => by cases e⟩
      · exact mem_univ.mpr ⟨⟨rp, r3, r2⟩, hl.symm, fun e => by cases e⟩
    · simp at h
      obtain ⟨q1, q2, q3⟩ := bes_rows k2 (x := (rs, left)) (y := (p.2, right)) hl r1 r2 rp r3 h.symm
      exact mem_univ.mpr ⟨q1, q2, fun e => by rw [q3] at e; cases e⟩
theorem univ_first : firstS ∈ univ sm L := mem_univ.mpr ⟨⟨rows_nil, rows_nil, rows_nil⟩, rfl, fun _ => ⟨rfl, rfl⟩⟩
theorem univ_sm {lg : Nat} (z : Szs sm lg L) {o : Tab} (hz : o.length ≤ 10) (hl : ∀ p ∈ o, p.2.length ≤ L) {s : St4} (hs : s ∈ univ sm L) : Sm o s := by
  obtain ⟨⟨r1, r2, r3⟩, _⟩ := mem_univ.mp hs
  have := z.x4
  have a1 := (mem_rowsUp.mp r1).1
  have a2 := (mem_rowsUp.mp r2).1
  have a3 := (mem_rowsUp.mp r3).1
  exact ⟨by omega, fun p hp => by have := hl p hp; omega, by omega, by omega, by omega⟩
theorem uniL {lg : Nat} (z : Szs sm lg L) (k1 : TabOK sm L one) (k2 : TabOK sm L t) : UniL (srtT t) one (univ sm L) :=
  ⟨univ_first, fun s hs s' h => univ_next k1 k2 hs h, univ_len z, fun s hs => univ_sm z k1.sz k1.len hs⟩
theorem uni {lg : Nat} (z : Szs sm lg L) (k1 : TabOK sm L one) (k2 : TabOK sm L t) : Uni (srtT t) (srtT one) (univ sm L) where
  first := univ_first
  next := fun s hs s' h => univ_next k1 k2 hs ((next_iff k1.ok (mem_univ.mp hs).2 s').mp h)
  len := univ_len z
  sm := fun s hs => univ_sm z (by rw [(srtT_perm one).length_eq]; exact k1.sz) (fun p hp => k1.len p (mem_srt.mp hp)) hs
  al := fun s hs hu p hp => by
    have := ((mem_univ.mp hs).2.al hu).2
    rw [← this]
    obtain ⟨a, ha⟩ := setP'_same (srtT t) (s.2.1 ++ p.2)
    rw [ha]; simp
  tl := by rw [(srtT_perm t).length_eq]; exact Nat.le_trans k2.sz (by decide)
theorem reach_iff {lg : Nat} (z : Szs sm lg L) (k1 : TabOK sm L one) (k2 : TabOK sm L t) (s : St4) : Reach (srtT t) (srtT one) s ↔ RL (srtT t) one s := by
  have u := uni z k1 k2
  constructor
  · intro h
    induction h with
    | first => exact .first
    | step h m ih => exact .step ih ((next_iff k1.ok (mem_univ.mp (u.reach h)).2 _).mp m)
  · intro h
    induction h with
    | first => exact .first
    | step h m ih => exact .step ih ((next_iff k1.ok (mem_univ.mp (u.reach ih)).2 _).mpr m)
end
end DL
namespace DL
open PySem PySem.Spec L2
def law_if : DWS := sIf (wTB (wBin (rEqD true) (wVar 11) (wVar 12))) (sDrop (wBM rApp (wVar 14) (wCons (wTup (wCons (wVar 10) (wCons (wVar 12) (wCons (wVar 11) (wCons (wVar 13) (wNil)))))) (wNil)))) (sNil)
def law_t1 (s__law_tells : DSp) : DWS := sIf (wOr (wNot (wTB (wCall 4 s__law_tells (wCons (wVar 4) (wCons (wVar 5) (wCons (wVar 6) (wCons (wVar 7) (wNil)))))))) (wNot (wTB (wCall 4 s__law_tells (wCons (wVar 4) (wCons (wVar 5) (wCons (wRev (wVar 6)) (wCons (wVar 7) (wNil))))))))) (sRet (wC (.bl false))) (sNil)
def law_t2 (s__law_tells : DSp) : DWS := sIf (wNot (wTB (wCall 4 s__law_tells (wCons (wVar 4) (wCons (wVar 5) (wCons (wBin rAddD (wBin rAddD (wBin rAddD (wSl (wVar 6) wNoP (wP (wVar 8))) (wVar 9)) (wSl (wVar 6) (wP (wVar 8)) wNoP)) (wLst (wCons (wBin rIxA (wVar 6) (wVar 8)) (wNil)))) (wCons (wVar 7) (wNil)))))))) (sRet (wC (.bl false))) (sNil)
def law_t3 (s__law_tells : DSp) : DWS := sIf (wNot (wTB (wCall 4 s__law_tells (wCons (wVar 4) (wCons (wVar 5) (wCons (wBin rAddD (wSl (wVar 6) wNoP (wP (wVar 8))) (wSl (wVar 6) (wP (wBin rAddD (wVar 8) (wC (.int 1)))) wNoP)) (wCons (wC (.bl false)) (wNil)))))))) (sRet (wC (.bl false))) (sNil)
def law_lp (s__law_tells : DSp) : DWS := sFor (wiL (wVar 14)) (gNm 15) (sSeq (sSet 16 (wBin rAddD (wLc (wiL (wVar 6)) (gNm 17) (wTB (wBin (rEqD true) (wVar 17) (wBin rIxA (wVar 6) (wVar 8)))) (wVar 17) [17]) (wLst (wCons (wVar 15) (wNil))))) (sIf (wNot (wTB (wCall 4 s__law_tells (wCons (wVar 4) (wCons (wVar 5) (wCons (wVar 16) (wCons (wC (.bl false)) (wNil)))))))) (sRet (wC (.bl false))) (sNil)))
def law_rt (s__law_tells : DSp) : DWS := sRet (wAndV (wCall 4 s__law_tells (wCons (wVar 4) (wCons (wVar 5) (wCons (wLst (wNil)) (wCons (wC (.bl false)) (wNil)))))) ((wCall 4 s__law_tells (wCons (wVar 4) (wCons (wVar 5) (wCons (wVar 6) (wCons (wVar 7) (wNil))))))))
theorem law_eq (C_Code : Addr) (s__law_tells s__law_draw s__law_end s__law_reached s_Code_init s__law_two s__law_open : DSp) : W_law C_Code s__law_tells s__law_draw s__law_end s__law_reached s_Code_init s__law_two s__law_open = sSeq (sSet 1 (wCall 2 s__law_open (wCons (wVar 0) (wCons (wC (.int 0)) (wNil))))) (sSeq (sAsg (gTp (gsCons (gNm 2) (gsCons (gNm 3) (gsNil)))) (wCall 1 s__law_two (wCons (wVar 1) (wNil)))) (sSeq (sPar 4 5 (wCons (wFrz (wMake C_Code 2 s_Code_init (wCons (wCB rList (wCons (wVar 2) (wNil))) (wNil)))) (wCons (wFrz (wMake C_Code 2 s_Code_init (wCons (wCB rList (wCons (wVar 3) (wNil))) (wNil)))) (wNil)))) (sSeq (sSet 6 (wCall 2 s__law_reached (wCons (wVar 2) (wCons (wVar 3) (wNil))))) (sSeq (sSet 7 (wBin (rEqD false) (wLc (wiL (wVar 6)) (gNm 15) (wTB (wCall 2 s__law_end (wCons (wVar 3) (wCons (wVar 15) (wNil))))) (wVar 15) [15]) (wLst (wNil)))) (sSeq (sSet 8 (wBin rModD (wCall 2 s__law_draw (wCons (wVar 1) (wCons (wC (.int 5000)) (wNil)))) (wCB rLen (wCons (wVar 6) (wNil))))) (sSeq (sSet 9 (wLst (wCons (wTup (wCons (wTup (wCons (wC (.int 1)) (wCons (wC (.int 2)) (wCons (wC (.int 3)) (wCons (wC (.int 4)) (wCons (wC (.int 5)) (wNil))))))) (wCons (wTup (wNil)) (wCons (wTup (wNil)) (wCons (wC (.bl true)) (wNil)))))) (wCons (wTup (wCons (wC (.int 7)) (wCons (wC (.str "a")) (wNil)))) (wCons (wTup (wCons (wTup (wNil)) (wCons (wTup (wNil)) (wCons (wTup (wNil)) (wCons (wC (.bl true)) (wNil)))))) (wCons (wTup (wCons (wTup (wCons (wTup (wCons (wC (.int 7)) (wNil))) (wNil))) (wCons (wTup (wCons (wC .non) (wCons (wC (.str "a")) (wNil)))) (wCons (wTup (wNil)) (wCons (wC (.int 1)) (wNil)))))) (wNil))))))) (sSeq (sAsg (gTp (gsCons (gNm 10) (gsCons (gNm 11) (gsCons (gNm 12) (gsCons (gNm 13) (gsNil)))))) (wBin rIxA (wVar 6) (wVar 8))) (sSeq (sSet 14 (wLstO (wCons (wTup (wCons (wVar 10) (wCons (wVar 11) (wCons (wVar 12) (wCons (wNotV (wVar 13)) (wNil)))))) (wNil)))) (sSeq (law_if) (sSeq (law_t1 s__law_tells) (sSeq (law_t2 s__law_tells) (sSeq (law_t3 s__law_tells) (sSeq (law_lp s__law_tells) (law_rt s__law_tells)))))))))))))) := rfl
/-- what the law has in hand -/
structure Had (one other : Tab) (S : List St4) (apart : Bool) : Prop where
  ex : ∃ (sm : Row) (lg Lx : Nat), Szs sm lg Lx ∧ TabOK sm Lx one ∧ TabOK sm Lx other
  nd : S.Nodup
  re : ∀ s, s ∈ S ↔ RL (srtT other) one s
  ap : apart = true ↔ ∀ s ∈ S, isEndP (srtT other) s = false
  sz : S.length ≤ 1000000
section
variable {C : Addr} {one other : Tab} {S : List St4} {apart : Bool}
theorem Had.uni (H : Had one other S apart) : ∃ U, Uni (srtT other) (srtT one) U := by
  obtain ⟨sm, lg, Lx, z, k1, k2⟩ := H.ex
  exact ⟨_, DL.uni z k1 k2⟩
theorem Had.reach (H : Had one other S apart) (s : St4) : Reach (srtT other) (srtT one) s ↔ s ∈ S := by
  obtain ⟨sm, lg, Lx, z, k1, k2⟩ := H.ex
  rw [H.re]
  exact reach_iff z k1 k2 s
theorem inL_mem {L : List D} {s : St4} (h : stateD s ∈ L) : inL L s = true := by
  unfold inL
  rw [List.any_eq_true]
  exact ⟨_, h, by simp⟩
theorem inL_states {l : List St4} {s : St4} : inL (l.map stateD) s = decide (s ∈ l) := by
  unfold inL
  rw [List.any_map, Bool.eq_iff_iff]
  simp [List.any_eq_true]
/-- all states among them -/
theorem Had.yes (H : Had one other S apart) {L : List D} (hL : ∀ s ∈ S, stateD s ∈ L) (hc : (D.lst L).cok = true) {M : Mem} {q : QE} {ex : Exn → Mem → Prop} (h : q (.bl true) M) :
    s__law_tells C [codeD C (srtT one), codeD C (srtT other), .lst L, .bl apart] M q ex := by
  obtain ⟨U, u⟩ := H.uni
  refine ⟨srtT other, srtT one, L, U, apart, rfl, hc, u, ?_, h⟩
  rw [H.ap]
  constructor
  · intro g s hs
    have hm := (H.reach s).mp hs
    exact ⟨inL_mem (hL s hm), g s hm⟩
  · intro g s hs
    exact (g s ((H.reach s).mpr hs)).2
/-- one is missing -/
theorem Had.no (H : Had one other S apart) {l : List St4} {s : St4} (hs : s ∈ S) (hn : s ∉ l) {M : Mem} {q : QE} {ex : Exn → Mem → Prop} (h : q (.bl true) M) :
    s__law_tells C [codeD C (srtT one), codeD C (srtT other), .lst (l.map stateD), .bl false] M q ex := by
  obtain ⟨U, u⟩ := H.uni
  refine ⟨srtT other, srtT one, l.map stateD, U, false, rfl, cok_states, u, ?_, h⟩
  simp only [Bool.false_eq_true, false_iff]
  intro g
  have := (g s ((H.reach s).mpr hs)).1
  rw [inL_states] at this
  exact hn (by simpa using this)
theorem Had.first (H : Had one other S apart) : firstS ∈ S := (H.re _).mpr .first
end
def moreD : List D := [.tup [.tup [.int 1, .int 2, .int 3, .int 4, .int 5], .tup [], .tup [], .bl true], .tup [.int 7, .str "a"], .tup [.tup [], .tup [], .tup [], .bl true], .tup [.tup [.tup [.int 7]], .tup [.non, .str "a"], .tup [], .int 1]]
theorem ck_more : ∀ d ∈ moreD, d.Ck 10 := by
  intro d hd
  simp [moreD] at hd
  rcases hd with rfl | rfl | rfl | rfl <;> exact ⟨by decide +kernel, by decide +kernel⟩
theorem ck_st {l : List St4} : ∀ d ∈ l.map stateD, d.Ck 10 := fun d m => by obtain ⟨i, _, rfl⟩ := List.mem_map.mp m; exact ck_state (n := 8)
abbrev RR (C h po : Addr) (sc : D) (one other : Tab) (S : List St4) (apart : Bool) (i : Nat) (sk : St4) (v15 v16 : Option D) : Env' :=
  [some sc, some (.ptr h), some (tabD one), some (tabD other), some (codeD C (srtT one)), some (codeD C (srtT other)), some (.lst (S.map stateD)), some (.bl apart), some (.int (i : Int)), some (.lst moreD), some (rowD sk.1), some (rowD sk.2.1), some (rowD sk.2.2.1), some (.bl sk.2.2.2), some (.ptr po), v15, v16, none]
section
variable {C h po : Addr} {sc : D} {one other : Tab} {S : List St4} {apart : Bool} {M : Mem} {k : DK} {sk : St4} {i : Nat} {v15 v16 : Option D}
theorem t1_ok (H : Had one other S apart) (hk : k.nx (RR C h po sc one other S apart i sk v15 v16) M) : law_t1 (s__law_tells C) k (RR C h po sc one other S apart i sk v15 v16) M := by
  simp [law_t1]
  refine H.yes (fun s hs => List.mem_map.mpr ⟨s, hs, rfl⟩) cok_states ?_
  simp
  refine H.yes (L := (S.map stateD).reverse) (fun s hs => List.mem_reverse.mpr (List.mem_map.mpr ⟨s, hs, rfl⟩)) (by rw [← List.map_reverse]; exact cok_states) ?_
  simp
  exact hk
theorem t2_ok (H : Had one other S apart) (hi : S[i]? = some sk) (hk : k.nx (RR C h po sc one other S apart i sk v15 v16) M) : law_t2 (s__law_tells C) k (RR C h po sc one other S apart i sk v15 v16) M := by
  have hz := H.sz
  have hsz := sz_small
  obtain ⟨hil, hg⟩ := List.getElem?_eq_some_iff.mp hi
  have hmore : moreD.length = 4 := rfl
  simp [law_t2, cut_to, cut_from, hil, hg, hmore]
  refine ⟨by omega, by omega, by omega, ?_⟩
  refine H.yes (fun s hs => ?_) ?_ ?_
  · rw [split_at hi] at hs
    rcases List.mem_append.mp hs with q | q
    · exact List.mem_append_left _ (by rw [← List.map_take]; exact List.mem_map.mpr ⟨s, q, rfl⟩)
    · refine List.mem_append_right _ (List.mem_append_right _ ?_)
      rcases List.mem_cons.mp q with rfl | q
      · exact List.mem_append_right _ (by simp)
      · refine List.mem_append_left _ ?_
        rw [← List.map_drop]
        refine List.mem_map.mpr ⟨s, ?_, rfl⟩
        rw [List.drop_eq_getElem_cons hil]
        exact List.mem_cons_of_mem _ q
  · refine Ck.cok (n := 11) (Ck.lst fun d hd => ?_) (by decide)
    rcases List.mem_append.mp hd with q | q
    · rw [← List.map_take] at q; exact ck_st d q
    · rcases List.mem_append.mp q with q | q
      · exact ck_more d q
      · rcases List.mem_append.mp q with q | q
        · rw [← List.map_drop] at q; exact ck_st d q
        · simp at q; rw [q]; exact ck_state (n := 8)
  · simp
    exact hk
theorem t3_ok (H : Had one other S apart) (hi : S[i]? = some sk) (hk : k.nx (RR C h po sc one other S apart i sk v15 v16) M) : law_t3 (s__law_tells C) k (RR C h po sc one other S apart i sk v15 v16) M := by
  have hz := H.sz
  have hsz := sz_small
  obtain ⟨hil, hg⟩ := List.getElem?_eq_some_iff.mp hi
  simp [law_t3, cut_to, cut_from1]
  refine ⟨by omega, ?_⟩
  have e : List.take i (List.map stateD S) ++ List.drop (i + 1) (List.map stateD S) = (S.take i ++ S.drop (i + 1)).map stateD := by rw [List.map_append, List.map_take, List.map_drop]
  rw [e]
  have hn : sk ∉ S.take i ++ S.drop (i + 1) := by
    have nd := H.nd
    rw [split_at hi, List.nodup_append, List.nodup_cons] at nd
    intro q
    rcases List.mem_append.mp q with q | q
    · exact nd.2.2 sk q sk (by simp) rfl
    · exact nd.2.1.1 q
  refine H.no (List.mem_of_getElem? hi) hn ?_
  simp
  exact hk
theorem rt_ok (H : Had one other S apart) (hk : k.rt (.bl true) M) : law_rt (s__law_tells C) k (RR C h po sc one other S apart i sk v15 v16) M := by
  simp [law_rt]
  refine H.no (l := []) H.first (by simp) ?_
  simp
  refine H.yes (fun s hs => List.mem_map.mpr ⟨s, hs, rfl⟩) cok_states ?_
  exact hk
theorem lp_ok (H : Had one other S apart) (hi : S[i]? = some sk) {xs : List St4} (hM : M po = some (.lst (xs.map stateD))) (hx : ∀ x ∈ xs, x ≠ sk) (hk : ∀ v15 v16, k.nx (RR C h po sc one other S apart i sk v15 v16) M) : law_lp (s__law_tells C) k (RR C h po sc one other S apart i sk none none) M := by
  have hz := H.sz
  have hsz := sz_small
  obtain ⟨hil, hg⟩ := List.getElem?_eq_some_iff.mp hi
  simp [law_lp, hM]
  refine forL_inv (fun ds ρ M' => M' = M ∧ ∃ (r : List St4) (v15 v16 : Option D), ds = r.map stateD ∧ (∀ x ∈ r, x ≠ sk) ∧ ρ = RR C h po sc one other S apart i sk v15 v16) (fun ds ρ M' q => by rw [q.1]; exact hM) ?_ ?_ _ _ _ ⟨rfl, xs, none, none, rfl, hx, rfl⟩
  · rintro ρ M' ⟨rfl, r, v15, v16, e, h1, rfl⟩
    exact hk v15 v16
  · rintro d ds ρ M' K ⟨rfl, r, v15, v16, e, h1, rfl⟩ hK
    cases r with
    | nil => cases e
    | cons x r =>
      cases e
      simp
      refine lc_pure (l := S) (e := stateD) (fun s => if s = sk then none else some (stateD s)) (fun _ _ _ => trivial) (fun p hp s hs acc Qc Qn k1 k2 => ?_) (by omega) ?_
      · simp [hil, hg]
        by_cases c : s = sk
        · simp [c] at k2 ⊢; exact k2
        · simp [c] at k1 ⊢; exact k1
      · have e : (S.filterMap fun s => if s = sk then none else some (stateD s)) = (S.filter fun s => decide (s ≠ sk)).map stateD := by
          generalize S = l
          induction l with
          | nil => rfl
          | cons s l ih => by_cases c : s = sk <;> simp [c, ih]
        rw [e]
        have hlen := List.length_filter_le (fun s => decide (s ≠ sk)) S
        simp
        refine ⟨by simp at hlen; omega, ?_⟩
        have e2 : List.map stateD (S.filter fun s => !decide (s = sk)) ++ [stateD x] = ((S.filter fun s => decide (s ≠ sk)) ++ [x]).map stateD := by simp
        rw [e2]
        have hn : sk ∉ (S.filter fun s => decide (s ≠ sk)) ++ [x] := by
          simp
          exact fun q => h1 x (by simp) q.symm
        refine H.no (List.mem_of_getElem? hi) hn ?_
        simp
        exact hK _ _ ⟨rfl, r, some (stateD x), some _, rfl, fun y hy => h1 y (by simp [hy]), rfl⟩
end
end DL
namespace DL
open PySem PySem.Spec L2
section
variable {C h po : Addr} {sc : D} {one other : Tab} {S : List St4} {apart : Bool} {M : Mem} {k : DK} {sk : St4} {i : Nat}
/-- from the other states on -/
theorem tail_ok (H : Had one other S apart) (hi : S[i]? = some sk) (hM : M po = some (.lst [stateD (sk.1, sk.2.1, sk.2.2.1, !sk.2.2.2)])) (hk : ∀ M', k.rt (.bl true) M') :
    sSeq law_if (sSeq (law_t1 (s__law_tells C)) (sSeq (law_t2 (s__law_tells C)) (sSeq (law_t3 (s__law_tells C)) (sSeq (law_lp (s__law_tells C)) (law_rt (s__law_tells C)))))) k (RR C h po sc one other S apart i sk none none) M := by
  obtain ⟨rs, left, right, u⟩ := sk
  have rest : ∀ (xs : List St4) (M' : Mem), M' po = some (.lst (xs.map stateD)) → (∀ x ∈ xs, x ≠ (rs, left, right, u)) →
      sSeq (law_t1 (s__law_tells C)) (sSeq (law_t2 (s__law_tells C)) (sSeq (law_t3 (s__law_tells C)) (sSeq (law_lp (s__law_tells C)) (law_rt (s__law_tells C))))) k (RR C h po sc one other S apart i (rs, left, right, u) none none) M' := fun xs M' hx hn => by
    simp only [e_seq]
    refine t1_ok H ?_
    simp only [e_seq]
    refine t2_ok H hi ?_
    simp only [e_seq]
    refine t3_ok H hi ?_
    simp only [e_seq]
    refine lp_ok H hi hx hn fun v15 v16 => ?_
    simp only
    exact rt_ok H (hk _)
  have hn1 : (rs, left, right, !u) ≠ (rs, left, right, u) := fun e => by simp at e
  rw [e_seq]
  simp only [law_if, e_if]
  simp
  by_cases c : left = right
  · simp [c] at hM ⊢
    have := rest [(rs, left, right, !u)] M (by rw [hM]; simp [c]) (by simp)
    simpa [c] using this
  · simp [c]
    have hv : (vw M (.ptr po)).isSome = true := by rw [vw_ptr hM]; rfl
    refine ⟨hv, ?_⟩
    rw [app_ptr hM]
    refine ⟨by simp, ?_⟩
    simp
    have := rest [(rs, left, right, !u), (rs, right, left, u)] (M.set po (.lst [stateD (rs, left, right, !u), stateD (rs, right, left, u)])) (by simp) (by simp; exact fun e1 e2 => c e2)
    exact this
end
theorem ok_law (C f : Addr) : Okk (W_law C (s__law_tells C) s__law_draw s__law_end s__law_reached (s_Code_init C f) s__law_two s__law_open) (s_lawN 63) 1 18 := by
  rintro ds M q ex hl ⟨ns, rfl, hn, hM, hq⟩
  have hsz := sz_small
  rw [law_eq]
  simp [startD]
  refine ⟨ns, 0, rfl, by decide, by omega, fun h M1 hh s1 => ?_⟩
  simp
  refine ⟨h, rfl, s1.self, fun one other M2 R s2 => ?_⟩
  obtain ⟨sm, lg, Lx, z, k1, k2⟩ := R
  have zx := z.x4
  simp
  intro p1 hp1
  refine ⟨p1, one, rfl, mem_ss, k1.ok.good, k1.ok.ne, fun p hp => by have := k1.len p hp; omega, by have := k1.sz; omega, ?_⟩
  simp [Mem.del_set hp1]
  intro p2 hp2
  refine ⟨p2, other, rfl, mem_ss, k2.ok.good, k2.ok.ne, fun p hp => by have := k2.len p hp; omega, by have := k2.sz; omega, ?_⟩
  simp [Mem.del_set hp2]
  refine ⟨other, one, univ sm Lx, rfl, k2.ok, uniL z k1 k2, fun S nd re => ?_⟩
  have hS : S.length ≤ 1000000 := Nat.le_trans (nodup_len nd fun s hs => (uni z k1 k2).reach ((reach_iff z k1 k2 s).mpr ((re s).mp hs))) (univ_len z)
  have hSm : ∀ s ∈ S, Sm one s := fun s hs => univ_sm z k1.sz k1.len ((uni z k1 k2).reach ((reach_iff z k1 k2 s).mpr ((re s).mp hs)))
  simp
  refine lc_pure (l := S) (e := stateD) (fun s => if isEndP (srtT other) s = true then some (stateD s) else none) (fun _ _ _ => trivial) (fun p hp s hs acc Qc Qn g1 g2 => ?_) (by omega) ?_
  · obtain ⟨_, _, _, y1, y2⟩ := hSm s hs
    simp
    refine ⟨other, s, rfl, k2.ok, by omega, by omega, ?_⟩
    by_cases c : isEndP (srtT other) s = true
    · simp [c] at g1 ⊢; exact g1
    · simp [c] at g2 ⊢; exact g2
  have e1 : (S.filterMap fun s => if isEndP (srtT other) s = true then some (stateD s) else none) = (S.filter fun s => isEndP (srtT other) s).map stateD := by
    clear nd re hS hSm
    induction S with
    | nil => rfl
    | cons s l ih => by_cases c : isEndP (srtT other) s = true <;> simp [c, ih]
  rw [e1]
  obtain ⟨ap, hap⟩ : ∃ ap : Bool, (S.filter fun s => isEndP (srtT other) s).isEmpty = ap := ⟨_, rfl⟩
  have H : Had one other S ap := ⟨⟨sm, lg, Lx, z, k1, k2⟩, nd, re, by rw [← hap, List.isEmpty_iff, List.filter_eq_nil_iff]; simp, hS⟩
  have hS0 : 0 < S.length := List.length_pos_of_mem H.first
  simp [cok_states, hap]
  refine ⟨h, 5000, rfl, by decide, by decide, s2.self, fun r M3 a1 b1 s3 => ?_⟩
  obtain ⟨i, hi, hil⟩ := mod_at hS0 a1
  obtain ⟨sk, hsk⟩ : ∃ sk, S[i]? = some sk := ⟨_, List.getElem?_eq_getElem hil⟩
  have hg : S[i] = sk := by have := List.getElem?_eq_getElem hil; rw [hsk] at this; exact (Option.some.inj this).symm
  obtain ⟨rs, left, right, u⟩ := sk
  simp [hi, hil, hg, hS0, stateD_mk]
  intro po hpo
  have := tail_ok (C := C) (h := h) (po := po) (sc := .lst (ns.map D.int)) (M := M3.set po (.lst [stateD (rs, left, right, !u)])) (k := { nx := fun _ M' => q .non M', rt := q, ex := fun x _ M' => ex x M' }) H hsk mem_ss hq
  exact this
end DL
namespace DL
open PySem PySem.Spec L2
def top (i : Nat) : Stmt := PySem.Challenge.pw_skewread_k85_papers_looked_at.main.body.getD i (.Pass ⟨0, 0, 0, 0⟩)
abbrev st_by_word : Stmt := top 23
abbrev st_Code_table : Stmt := inClass (top 24) 1
abbrev st_Code_live : Stmt := inClass (top 24) 7
abbrev st_Code_sign : Stmt := inClass (top 24) 4
abbrev st_entry_at : Stmt := top 12
abbrev st_settled : Stmt := top 13
abbrev st_grown : Stmt := top 15
abbrev st_alike_steps : Stmt := top 16
abbrev st_next_steps : Stmt := top 17
abbrev st_Code_longest : Stmt := inClass (top 24) 5
abbrev st_sign_from : Stmt := top 6
abbrev st_spilt : Stmt := top 8
abbrev st_spill : Stmt := top 9
abbrev st_is_end : Stmt := top 14
abbrev st_shows_apart : Stmt := top 19
abbrev st__law_tells : Stmt := top 41
abbrev st__law_draw : Stmt := top 27
abbrev st__law_word_at : Stmt := top 33
abbrev st__law_entries : Stmt := top 34
abbrev st__law_end : Stmt := top 40
abbrev st__law_begins : Stmt := top 35
abbrev st__law_settled : Stmt := top 36
abbrev st__law_beside : Stmt := top 37
abbrev st__law_next : Stmt := top 38
abbrev st__law_reached : Stmt := top 39
abbrev st_at_odds : Stmt := top 21
abbrev st_fault : Stmt := top 22
abbrev st_Code_init : Stmt := inClass (top 24) 0
abbrev st__law_table : Stmt := top 31
abbrev st__law_signs : Stmt := top 30
abbrev st__law_words : Stmt := top 29
abbrev st__law_bytes : Stmt := top 28
abbrev st__law_two : Stmt := top 32
abbrev st__law_open : Stmt := top 26
abbrev st_law : Stmt := top 42
/-- what the text's top has written -/
structure Tx (K : PySem.W.Frag) (mg : Str → Option Value) where
  C_Code : Addr
  cl_Code : Cls K C_Code
  m_Code : mg "Code" = some (.ref C_Code)
  f_by_word : Addr
  fd_by_word : FuncData
  F_by_word : Fun K "by_word" "by_word" st_by_word f_by_word fd_by_word
  b_by_word : Binds K fd_by_word ["pair"] []
  m_by_word : mg "by_word" = some (.ref f_by_word)
  f_Code_table : Addr
  fd_Code_table : FuncData
  F_Code_table : Fun K "table" "Code.table" st_Code_table f_Code_table fd_Code_table
  b_Code_table : Binds K fd_Code_table ["self"] []
  me_Code_table : Meth K C_Code "table" f_Code_table
  f_Code_live : Addr
  fd_Code_live : FuncData
  F_Code_live : Fun K "live" "Code.live" st_Code_live f_Code_live fd_Code_live
  b_Code_live : Binds K fd_Code_live ["self", "row"] []
  me_Code_live : Meth K C_Code "live" f_Code_live
  f_Code_sign : Addr
  fd_Code_sign : FuncData
  F_Code_sign : Fun K "sign" "Code.sign" st_Code_sign f_Code_sign fd_Code_sign
  b_Code_sign : Binds K fd_Code_sign ["self", "word"] []
  me_Code_sign : Meth K C_Code "sign" f_Code_sign
  f_entry_at : Addr
  fd_entry_at : FuncData
  F_entry_at : Fun K "entry_at" "entry_at" st_entry_at f_entry_at fd_entry_at
  b_entry_at : Binds K fd_entry_at ["other", "row"] []
  m_entry_at : mg "entry_at" = some (.ref f_entry_at)
  f_settled : Addr
  fd_settled : FuncData
  F_settled : Fun K "settled" "settled" st_settled f_settled fd_settled
  b_settled : Binds K fd_settled ["other", "left", "right"] []
  m_settled : mg "settled" = some (.ref f_settled)
  f_grown : Addr
  fd_grown : FuncData
  F_grown : Fun K "grown" "grown" st_grown f_grown fd_grown
  b_grown : Binds K fd_grown ["other", "state", "word"] []
  m_grown : mg "grown" = some (.ref f_grown)
  f_alike_steps : Addr
  fd_alike_steps : FuncData
  F_alike_steps : Fun K "alike_steps" "alike_steps" st_alike_steps f_alike_steps fd_alike_steps
  b_alike_steps : Binds K fd_alike_steps ["one", "other", "state"] []
  m_alike_steps : mg "alike_steps" = some (.ref f_alike_steps)
  f_next_steps : Addr
  fd_next_steps : FuncData
  F_next_steps : Fun K "next_steps" "next_steps" st_next_steps f_next_steps fd_next_steps
  b_next_steps : Binds K fd_next_steps ["one", "other", "state"] []
  m_next_steps : mg "next_steps" = some (.ref f_next_steps)
  f_Code_longest : Addr
  fd_Code_longest : FuncData
  F_Code_longest : Fun K "longest" "Code.longest" st_Code_longest f_Code_longest fd_Code_longest
  b_Code_longest : Binds K fd_Code_longest ["self"] []
  me_Code_longest : Meth K C_Code "longest" f_Code_longest
  f_sign_from : Addr
  fd_sign_from : FuncData
  F_sign_from : Fun K "sign_from" "sign_from" st_sign_from f_sign_from fd_sign_from
  b_sign_from : Binds K fd_sign_from ["code", "row", "at"] []
  m_sign_from : mg "sign_from" = some (.ref f_sign_from)
  f_spilt : Addr
  fd_spilt : FuncData
  F_spilt : Fun K "spilt" "spilt" st_spilt f_spilt fd_spilt
  b_spilt : Binds K fd_spilt ["code", "row"] []
  m_spilt : mg "spilt" = some (.ref f_spilt)
  f_spill : Addr
  fd_spill : FuncData
  F_spill : Fun K "spill" "spill" st_spill f_spill fd_spill
  b_spill : Binds K fd_spill ["code", "row"] []
  m_spill : mg "spill" = some (.ref f_spill)
  f_is_end : Addr
  fd_is_end : FuncData
  F_is_end : Fun K "is_end" "is_end" st_is_end f_is_end fd_is_end
  b_is_end : Binds K fd_is_end ["other", "state"] []
  m_is_end : mg "is_end" = some (.ref f_is_end)
  f_shows_apart : Addr
  fd_shows_apart : FuncData
  F_shows_apart : Fun K "shows_apart" "shows_apart" st_shows_apart f_shows_apart fd_shows_apart
  b_shows_apart : Binds K fd_shows_apart ["one", "other", "states"] []
  m_shows_apart : mg "shows_apart" = some (.ref f_shows_apart)
  f__law_tells : Addr
  fd__law_tells : FuncData
  F__law_tells : Fun K "_law_tells" "_law_tells" st__law_tells f__law_tells fd__law_tells
  b__law_tells : Binds K fd__law_tells ["_law_mine", "_law_theirs", "_law_states", "_law_due"] []
  m__law_tells : mg "_law_tells" = some (.ref f__law_tells)
  f__law_draw : Addr
  fd__law_draw : FuncData
  F__law_draw : Fun K "_law_draw" "_law_draw" st__law_draw f__law_draw fd__law_draw
  b__law_draw : Binds K fd__law_draw ["_law_hand", "_law_many"] []
  m__law_draw : mg "_law_draw" = some (.ref f__law_draw)
  f__law_word_at : Addr
  fd__law_word_at : FuncData
  F__law_word_at : Fun K "_law_word_at" "_law_word_at" st__law_word_at f__law_word_at fd__law_word_at
  b__law_word_at : Binds K fd__law_word_at ["_law_table_here", "_law_row", "_law_at"] []
  m__law_word_at : mg "_law_word_at" = some (.ref f__law_word_at)
  f__law_entries : Addr
  fd__law_entries : FuncData
  F__law_entries : Fun K "_law_entries" "_law_entries" st__law_entries f__law_entries fd__law_entries
  b__law_entries : Binds K fd__law_entries ["_law_table_here", "_law_row"] []
  m__law_entries : mg "_law_entries" = some (.ref f__law_entries)
  f__law_end : Addr
  fd__law_end : FuncData
  F__law_end : Fun K "_law_end" "_law_end" st__law_end f__law_end fd__law_end
  b__law_end : Binds K fd__law_end ["_law_other", "_law_state"] []
  m__law_end : mg "_law_end" = some (.ref f__law_end)
  f__law_begins : Addr
  fd__law_begins : FuncData
  F__law_begins : Fun K "_law_begins" "_law_begins" st__law_begins f__law_begins fd__law_begins
  b__law_begins : Binds K fd__law_begins ["_law_table_here", "_law_row"] []
  m__law_begins : mg "_law_begins" = some (.ref f__law_begins)
  f__law_settled : Addr
  fd__law_settled : FuncData
  F__law_settled : Fun K "_law_settled" "_law_settled" st__law_settled f__law_settled fd__law_settled
  b__law_settled : Binds K fd__law_settled ["_law_table_here", "_law_left", "_law_right"] []
  m__law_settled : mg "_law_settled" = some (.ref f__law_settled)
  f__law_beside : Addr
  fd__law_beside : FuncData
  F__law_beside : Fun K "_law_beside" "_law_beside" st__law_beside f__law_beside fd__law_beside
  b__law_beside : Binds K fd__law_beside ["_law_table_here", "_law_long", "_law_short", "_law_unlike"] []
  m__law_beside : mg "_law_beside" = some (.ref f__law_beside)
  f__law_next : Addr
  fd__law_next : FuncData
  F__law_next : Fun K "_law_next" "_law_next" st__law_next f__law_next fd__law_next
  b__law_next : Binds K fd__law_next ["_law_one", "_law_other", "_law_state"] []
  m__law_next : mg "_law_next" = some (.ref f__law_next)
  f__law_reached : Addr
  fd__law_reached : FuncData
  F__law_reached : Fun K "_law_reached" "_law_reached" st__law_reached f__law_reached fd__law_reached
  b__law_reached : Binds K fd__law_reached ["_law_one", "_law_other"] []
  m__law_reached : mg "_law_reached" = some (.ref f__law_reached)
  f_at_odds : Addr
  fd_at_odds : FuncData
  F_at_odds : Fun K "at_odds" "at_odds" st_at_odds f_at_odds fd_at_odds
  b_at_odds : Binds K fd_at_odds ["one", "other"] []
  m_at_odds : mg "at_odds" = some (.ref f_at_odds)
  f_fault : Addr
  fd_fault : FuncData
  F_fault : Fun K "fault" "fault" st_fault f_fault fd_fault
  b_fault : Binds K fd_fault ["table"] []
  m_fault : mg "fault" = some (.ref f_fault)
  f_Code_init : Addr
  fd_Code_init : FuncData
  F_Code_init : Fun K "__init__" "Code.__init__" st_Code_init f_Code_init fd_Code_init
  b_Code_init : Binds K fd_Code_init ["self", "table"] []
  mk_Code : Mk K C_Code f_Code_init
  f__law_table : Addr
  fd__law_table : FuncData
  F__law_table : Fun K "_law_table" "_law_table" st__law_table f__law_table fd__law_table
  b__law_table : Binds K fd__law_table ["_law_hand", "_law_words_here", "_law_signs_here"] []
  m__law_table : mg "_law_table" = some (.ref f__law_table)
  f__law_signs : Addr
  fd__law_signs : FuncData
  F__law_signs : Fun K "_law_signs" "_law_signs" st__law_signs f__law_signs fd__law_signs
  b__law_signs : Binds K fd__law_signs ["_law_hand", "_law_many"] []
  m__law_signs : mg "_law_signs" = some (.ref f__law_signs)
  f__law_words : Addr
  fd__law_words : FuncData
  F__law_words : Fun K "_law_words" "_law_words" st__law_words f__law_words fd__law_words
  b__law_words : Binds K fd__law_words ["_law_hand", "_law_some", "_law_most", "_law_longest"] []
  m__law_words : mg "_law_words" = some (.ref f__law_words)
  f__law_bytes : Addr
  fd__law_bytes : FuncData
  F__law_bytes : Fun K "_law_bytes" "_law_bytes" st__law_bytes f__law_bytes fd__law_bytes
  b__law_bytes : Binds K fd__law_bytes ["_law_hand", "_law_most"] []
  m__law_bytes : mg "_law_bytes" = some (.ref f__law_bytes)
  f__law_two : Addr
  fd__law_two : FuncData
  F__law_two : Fun K "_law_two" "_law_two" st__law_two f__law_two fd__law_two
  b__law_two : Binds K fd__law_two ["_law_hand"] []
  m__law_two : mg "_law_two" = some (.ref f__law_two)
  f__law_open : Addr
  fd__law_open : FuncData
  F__law_open : Fun K "_law_open" "_law_open" st__law_open f__law_open fd__law_open
  b__law_open : Binds K fd__law_open ["_law_script", "_law_place"] []
  m__law_open : mg "_law_open" = some (.ref f__law_open)
  f_law : Addr
  fd_law : FuncData
  F_law : Fun K "law" "law" st_law f_law fd_law
  b_law : Binds K fd_law ["_law_script"] []
  na_Code_pairs : NoAttr K C_Code "pairs"
  na_Code_readings : NoAttr K C_Code "readings"
  na_Code_words : NoAttr K C_Code "words"
  n_abs : mg "abs" = none
  n_any : mg "any" = none
  n_bool : mg "bool" = none
  n_int : mg "int" = none
  n_isinstance : mg "isinstance" = none
  n_len : mg "len" = none
  n_list : mg "list" = none
  n_max : mg "max" = none
  n_min : mg "min" = none
  n_range : mg "range" = none
  n_sorted : mg "sorted" = none
  n_tuple : mg "tuple" = none
  a_FIRST_STATE : Addr
  m_FIRST_STATE : mg "FIRST_STATE" = some (.ref a_FIRST_STATE)
  r_FIRST_STATE : ∀ (G : Gx), G.K = K → ∀ F, Rf G F (.ref a_FIRST_STATE) c_FIRST_STATE
theorem Tx.c_FIRST_STATE {G : Gx} (T : Tx G.K G.mg) {k : Nat} {N : List Str} {sc : Scope} {X : Cx} {W : WX} {pos : Pos} (B : Bs G k N sc X W) (h : gnB sc "FIRST_STATE" = true) : DE G X W (.Name "FIRST_STATE" pos) (wC c_FIRST_STATE) := de_glob B.toBd (Gn.of B T.m_FIRST_STATE h) (show RelV (.ref T.a_FIRST_STATE) (.ref T.a_FIRST_STATE) from rfl) (T.r_FIRST_STATE G rfl)
theorem sc_by_word : FnScope ["pair"] ["pair"] (defScope st_by_word) := ⟨rfl, rfl, rfl, by decide +kernel, rfl, by decide +kernel, by decide +kernel⟩
theorem Tx.kx_by_word {G : Gx} (T : Tx G.K G.mg) : KeyIx G T.f_by_word 1 := key_ix T.F_by_word sc_by_word T.b_by_word rfl rfl (by decide +kernel) (by decide)
theorem law_b {K : PySem.W.Frag} {f : Addr} {fd : FuncData} (F : Fun K "law" "law" st_law f fd) : ∀ (s : Shared) (v : Value), BindsTo s fd ⟨[v], []⟩ [("_law_script", v)] := by
  obtain ⟨oc, od, kV, doc, pm, an, cdv, ct, osl, rfl, _⟩ := F.ex
  exact fun s v => .of_eq rfl
theorem first_k {K : PySem.W.Frag} {h : Heap} {mg : Str → Option Value} {a b1 b2 b3 : Addr} {d0 d1 d2 d3 : Option Addr} {n0 n1 n2 n3 : Nat} {s0 s1 s2 s3 : Array (Option Value)} {g : Prop} (X : K.In h) (G : h.Ns mainGlobals mg) (ha : PySem.W.nsIn K mainGlobals "FIRST_STATE" = some (some (.ref a)))
    (l : K.lookup a = some ⟨.type "tuple", d0, .seq #[.ref b1, .ref b2, .ref b3, .bool false] n0, s0⟩) (l1 : K.lookup b1 = some ⟨.type "tuple", d1, .seq #[] n1, s1⟩) (l2 : K.lookup b2 = some ⟨.type "tuple", d2, .seq #[] n2, s2⟩) (l3 : K.lookup b3 = some ⟨.type "tuple", d3, .seq #[] n3, s3⟩)
    (nx : mg "FIRST_STATE" = some (.ref a) → (∀ (G : Gx), G.K = K → ∀ F, Rf G F (.ref a) c_FIRST_STATE) → g) : g := by
  refine nx (PySem.W.mg_of X G ha) fun G e F => ?_
  subst e
  have em : ∀ {b : Addr} {d : Option Addr} {n : Nat} {s : Array (Option Value)}, G.K.lookup b = some ⟨.type "tuple", d, .seq #[] n, s⟩ → Rf G F (.ref b) (.tup []) := fun hb => .tup (.inr ⟨_, _, _, hb, rfl, rfl, Nat.zero_le _, .nil⟩) .nil
  exact .tup (xs := [.ref b1, .ref b2, .ref b3, .bl false]) (.inr ⟨_, _, _, l, rfl, rfl, (show 4 ≤ sizeLine by decide), .cons rfl (.cons rfl (.cons rfl (.cons rfl .nil)))⟩) (.cons (em l1) (.cons (em l2) (.cons (em l3) (.cons (.bl _) .nil))))
abbrev n_Code_table : List Str := ["self"]
theorem sc_Code_table : FnScope n_Code_table ["self"] (defScope st_Code_table) := ⟨rfl, rfl, rfl, by decide +kernel, rfl, by decide +kernel, by decide +kernel⟩
theorem der_Code_table {G : Gx} (T : Tx G.K G.mg) (X : Cx) (W : WX) (B : Bf G 0 n_Code_table (defScope st_Code_table) X W) : DSs G X W (defBody st_Code_table) (W_Code_table T.C_Code) :=
  dss_one (ds_ret (de_callTy B.bs.toBd (dc_list B.bs.toBd) (Bn.of B.bs T.n_list bt_list (by decide +kernel) (by decide +kernel)) (da_cons (de_fld B.bs.toBd T.cl_Code T.na_Code_pairs (de_var (Sl.of B.bs (i := 0) (x := "self") (by decide +kernel)))) (da_nil))))
abbrev n_Code_live : List Str := ["self", "row", "some", "word"]
theorem sc_Code_live : FnScope n_Code_live ["self", "row"] (defScope st_Code_live) := ⟨rfl, rfl, rfl, by decide +kernel, rfl, by decide +kernel, by decide +kernel⟩
theorem der_Code_live {G : Gx} (T : Tx G.K G.mg) (X : Cx) (W : WX) (B : Bf G 0 n_Code_live (defScope st_Code_live) X W) : DSs G X W (defBody st_Code_live) (W_Code_live T.C_Code) :=
  dss_cons (ds_set (Sn.of B (i := 2) (x := "some") (by decide +kernel)) (de_callTy B.bs.toBd (dc_tuple B.bs.toBd) (Bn.of B.bs T.n_tuple bt_tuple (by decide +kernel) (by decide +kernel)) (da_cons (de_var (Sl.of B.bs (i := 1) (x := "row") (by decide +kernel))) (da_nil)))) (dss_one (ds_ret (de_callB B.bs.toBd (dc_any B.bs.toBd) (Bn.of B.bs T.n_any bt_any (by decide +kernel) (by decide +kernel)) (da_cons (de_lc B.bs.toBd (own := [("word", 3)]) (own2 := [3]) (di_keys B.bs.toBd (de_fld B.bs.toBd T.cl_Code T.na_Code_readings (de_var (Sl.of B.bs (i := 0) (x := "self") (by decide +kernel))))) (by rw [B.bs.eN, B.bs.esc]; decide +kernel) (by decide) (fun X1 B1_ h1 h2 => have B1 := Bs.blk B.bs B1_ h1 h2; dg_name (Sn.blk B1 (i := 3) (x := "word") (by decide +kernel))) (fun X1 B1_ h1 h2 => have B1 := Bs.blk B.bs B1_ h1 h2; dts_nil) (fun X1 B1_ h1 h2 => have B1 := Bs.blk B.bs B1_ h1 h2; (de_and (de_cmp (dop_ltD B1.toBd) (de_callB B1.toBd (dc_len B1.toBd) (Bn.of B1 T.n_len bt_len (by decide +kernel) (by decide +kernel)) (da_cons (de_var (Sl.of B1 (i := 2) (x := "some") (by decide +kernel))) (da_nil))) (de_callB B1.toBd (dc_len B1.toBd) (Bn.of B1 T.n_len bt_len (by decide +kernel) (by decide +kernel)) (da_cons (de_var (Sl.of B1 (i := 3) (x := "word") (by decide +kernel))) (da_nil))) rfl) (de_one (de_cmp (dop_eq B1.toBd) (de_slice B1.toBd (de_var (Sl.of B1 (i := 3) (x := "word") (by decide +kernel))) do_none (do_some (de_callB B1.toBd (dc_len B1.toBd) (Bn.of B1 T.n_len bt_len (by decide +kernel) (by decide +kernel)) (da_cons (de_var (Sl.of B1 (i := 2) (x := "some") (by decide +kernel))) (da_nil))))) (de_var (Sl.of B1 (i := 2) (x := "some") (by decide +kernel))) rfl))))) (da_nil)))))
abbrev n_Code_sign : List Str := ["self", "word"]
theorem sc_Code_sign : FnScope n_Code_sign ["self", "word"] (defScope st_Code_sign) := ⟨rfl, rfl, rfl, by decide +kernel, rfl, by decide +kernel, by decide +kernel⟩
theorem der_Code_sign {G : Gx} (T : Tx G.K G.mg) (X : Cx) (W : WX) (B : Bf G 0 n_Code_sign (defScope st_Code_sign) X W) : DSs G X W (defBody st_Code_sign) (W_Code_sign T.C_Code) :=
  dss_one (ds_ret (de_get1 B.bs.toBd (de_fld B.bs.toBd T.cl_Code T.na_Code_readings (de_var (Sl.of B.bs (i := 0) (x := "self") (by decide +kernel)))) (de_var (Sl.of B.bs (i := 1) (x := "word") (by decide +kernel))) ⟨rfl, rfl, rfl, rfl⟩))
abbrev n_entry_at : List Str := ["other", "row", "size", "sign"]
theorem sc_entry_at : FnScope n_entry_at ["other", "row"] (defScope st_entry_at) := ⟨rfl, rfl, rfl, by decide +kernel, rfl, by decide +kernel, by decide +kernel⟩
theorem der_entry_at {G : Gx} (T : Tx G.K G.mg) {s_Code_live : DSp} (F_Code_live : Fd G 1 2 T.f_Code_live s_Code_live) {s_Code_sign : DSp} (F_Code_sign : Fd G 1 2 T.f_Code_sign s_Code_sign) (X : Cx) (W : WX) (B : Bf G 1 n_entry_at (defScope st_entry_at) X W) : DSs G X W (defBody st_entry_at) (W_entry_at T.C_Code s_Code_live s_Code_sign) :=
  dss_cons (ds_for B.bs.toBd (di_range2 B.bs.toBd (Gl.of B.bs (by decide +kernel)) T.n_range (da_cons (de_int) (da_cons (de_bin (dop_add B.bs.toBd) (de_callB B.bs.toBd (dc_len B.bs.toBd) (Bn.of B.bs T.n_len bt_len (by decide +kernel) (by decide +kernel)) (da_cons (de_var (Sl.of B.bs (i := 1) (x := "row") (by decide +kernel))) (da_nil))) (de_int)) (da_nil)))) (dg_name (Sn.of B (i := 2) (x := "size") (by decide +kernel))) (dss_cons (ds_set (Sn.of B (i := 3) (x := "sign") (by decide +kernel)) (de_meth B.bs.toBd T.cl_Code T.me_Code_sign F_Code_sign (by decide) (de_var (Sl.of B.bs (i := 0) (x := "other") (by decide +kernel))) (da_cons (de_slice B.bs.toBd (de_var (Sl.of B.bs (i := 1) (x := "row") (by decide +kernel))) do_none (do_some (de_var (Sl.of B.bs (i := 2) (x := "size") (by decide +kernel))))) (da_nil)))) (dss_one (ds_if (dt_cmp dop_notN (de_var (Sl.of B.bs (i := 3) (x := "sign") (by decide +kernel))) (de_non) rfl) (dss_one (ds_ret (de_tup (da_cons (de_var (Sl.of B.bs (i := 3) (x := "sign") (by decide +kernel))) (da_cons (de_var (Sl.of B.bs (i := 2) (x := "size") (by decide +kernel))) (da_nil)))))) (dss_nil))))) (dss_cons (ds_if (dt_val (de_meth B.bs.toBd T.cl_Code T.me_Code_live F_Code_live (by decide) (de_var (Sl.of B.bs (i := 0) (x := "other") (by decide +kernel))) (da_cons (de_callTy B.bs.toBd (dc_list B.bs.toBd) (Bn.of B.bs T.n_list bt_list (by decide +kernel) (by decide +kernel)) (da_cons (de_var (Sl.of B.bs (i := 1) (x := "row") (by decide +kernel))) (da_nil))) (da_nil)))) (dss_one (ds_ret (de_non))) (dss_nil)) (dss_one (ds_ret (de_tup (da_cons (de_non) (da_cons (de_int) (da_nil)))))))
abbrev n_settled : List Str := ["other", "left", "right", "mine", "theirs"]
theorem sc_settled : FnScope n_settled ["other", "left", "right"] (defScope st_settled) := ⟨rfl, rfl, rfl, by decide +kernel, rfl, by decide +kernel, by decide +kernel⟩
theorem der_settled {G : Gx} (T : Tx G.K G.mg) {s_entry_at : DSp} (F_entry_at : Fd G 2 2 T.f_entry_at s_entry_at) (X : Cx) (W : WX) (B : Bf G 2 n_settled (defScope st_settled) X W) : DSs G X W (defBody st_settled) (W_settled s_entry_at) :=
  dss_cons (ds_while B.bs.toBd (dt_cmp (dop_ne B.bs.toBd) (de_var (Sl.of B.bs (i := 1) (x := "left") (by decide +kernel))) (de_tup (da_nil)) rfl) (dss_cons (ds_set (Sn.of B (i := 3) (x := "mine") (by decide +kernel)) (de_call B.bs.toBd F_entry_at (by decide) (Gn.of B.bs T.m_entry_at (by decide +kernel)) (da_cons (de_var (Sl.of B.bs (i := 0) (x := "other") (by decide +kernel))) (da_cons (de_var (Sl.of B.bs (i := 1) (x := "left") (by decide +kernel))) (da_nil))))) (dss_cons (ds_set (Sn.of B (i := 4) (x := "theirs") (by decide +kernel)) (de_call B.bs.toBd F_entry_at (by decide) (Gn.of B.bs T.m_entry_at (by decide +kernel)) (da_cons (de_var (Sl.of B.bs (i := 0) (x := "other") (by decide +kernel))) (da_cons (de_var (Sl.of B.bs (i := 2) (x := "right") (by decide +kernel))) (da_nil))))) (dss_cons (ds_if (dt_bool (dw_or (dt_cmp dop_isN (de_var (Sl.of B.bs (i := 3) (x := "mine") (by decide +kernel))) (de_non) rfl) (dw_or1 (dt_cmp dop_isN (de_var (Sl.of B.bs (i := 4) (x := "theirs") (by decide +kernel))) (de_non) rfl)))) (dss_one (ds_ret (de_tup (da_cons (de_var (Sl.of B.bs (i := 1) (x := "left") (by decide +kernel))) (da_cons (de_var (Sl.of B.bs (i := 2) (x := "right") (by decide +kernel))) (da_nil)))))) (dss_nil)) (dss_cons (ds_if (dt_cmp (dop_ne B.bs.toBd) (de_var (Sl.of B.bs (i := 3) (x := "mine") (by decide +kernel))) (de_var (Sl.of B.bs (i := 4) (x := "theirs") (by decide +kernel))) rfl) (dss_one (ds_ret (de_non))) (dss_nil)) (dss_cons (ds_set (Sn.of B (i := 1) (x := "left") (by decide +kernel)) (de_slice B.bs.toBd (de_var (Sl.of B.bs (i := 1) (x := "left") (by decide +kernel))) (do_some (de_ixA B.bs.toBd (de_var (Sl.of B.bs (i := 3) (x := "mine") (by decide +kernel))) (de_int) (fun _ _ => rfl))) do_none)) (dss_one (ds_set (Sn.of B (i := 2) (x := "right") (by decide +kernel)) (de_slice B.bs.toBd (de_var (Sl.of B.bs (i := 2) (x := "right") (by decide +kernel))) (do_some (de_ixA B.bs.toBd (de_var (Sl.of B.bs (i := 3) (x := "mine") (by decide +kernel))) (de_int) (fun _ _ => rfl))) do_none))))))))) (dss_one (ds_ret (de_tup (da_cons (de_tup (da_nil)) (da_cons (de_tup (da_nil)) (da_nil))))))
abbrev n_grown : List Str := ["other", "state", "word", "rest", "left", "right", "unlike", "size", "both"]
theorem sc_grown : FnScope n_grown ["other", "state", "word"] (defScope st_grown) := ⟨rfl, rfl, rfl, by decide +kernel, rfl, by decide +kernel, by decide +kernel⟩
theorem der_grown {G : Gx} (T : Tx G.K G.mg) {s_settled : DSp} (F_settled : Fd G 3 3 T.f_settled s_settled) (X : Cx) (W : WX) (B : Bf G 3 n_grown (defScope st_grown) X W) : DSs G X W (defBody st_grown) (W_grown s_settled) :=
  dss_cons (ds_asg (de_var (Sl.of B.bs (i := 1) (x := "state") (by decide +kernel))) (dg_tup B.bs.toBd (n := 4) (dgs_cons (dg_name (Sn.of B (i := 3) (x := "rest") (by decide +kernel))) (dgs_cons (dg_name (Sn.of B (i := 4) (x := "left") (by decide +kernel))) (dgs_cons (dg_name (Sn.of B (i := 5) (x := "right") (by decide +kernel))) (dgs_cons (dg_name (Sn.of B (i := 6) (x := "unlike") (by decide +kernel))) (dgs_nil))))) (gl_len (gl_cons gt_nm (gl_cons gt_nm (gl_cons gt_nm (gl_cons gt_nm (gl_nil)))))))) (dss_cons (ds_set (Sn.of B (i := 7) (x := "size") (by decide +kernel)) (de_callB B.bs.toBd (dc_minA B.bs.toBd) (Bn.of B.bs T.n_min bt_min (by decide +kernel) (by decide +kernel)) (da_cons (de_callB B.bs.toBd (dc_len B.bs.toBd) (Bn.of B.bs T.n_len bt_len (by decide +kernel) (by decide +kernel)) (da_cons (de_var (Sl.of B.bs (i := 3) (x := "rest") (by decide +kernel))) (da_nil))) (da_cons (de_callB B.bs.toBd (dc_len B.bs.toBd) (Bn.of B.bs T.n_len bt_len (by decide +kernel) (by decide +kernel)) (da_cons (de_var (Sl.of B.bs (i := 2) (x := "word") (by decide +kernel))) (da_nil))) (da_nil))))) (dss_cons (ds_set (Sn.of B (i := 8) (x := "both") (by decide +kernel)) (de_call B.bs.toBd F_settled (by decide) (Gn.of B.bs T.m_settled (by decide +kernel)) (da_cons (de_var (Sl.of B.bs (i := 0) (x := "other") (by decide +kernel))) (da_cons (de_bin (dop_add B.bs.toBd) (de_var (Sl.of B.bs (i := 4) (x := "left") (by decide +kernel))) (de_slice B.bs.toBd (de_var (Sl.of B.bs (i := 3) (x := "rest") (by decide +kernel))) do_none (do_some (de_var (Sl.of B.bs (i := 7) (x := "size") (by decide +kernel)))))) (da_cons (de_bin (dop_add B.bs.toBd) (de_var (Sl.of B.bs (i := 5) (x := "right") (by decide +kernel))) (de_slice B.bs.toBd (de_var (Sl.of B.bs (i := 2) (x := "word") (by decide +kernel))) do_none (do_some (de_var (Sl.of B.bs (i := 7) (x := "size") (by decide +kernel)))))) (da_nil)))))) (dss_cons (ds_if (dt_cmp dop_isN (de_var (Sl.of B.bs (i := 8) (x := "both") (by decide +kernel))) (de_non) rfl) (dss_one (ds_ret (de_non))) (dss_nil)) (dss_cons (ds_if (dt_cmp (dop_gtD B.bs.toBd) (de_callB B.bs.toBd (dc_len B.bs.toBd) (Bn.of B.bs T.n_len bt_len (by decide +kernel) (by decide +kernel)) (da_cons (de_var (Sl.of B.bs (i := 2) (x := "word") (by decide +kernel))) (da_nil))) (de_var (Sl.of B.bs (i := 7) (x := "size") (by decide +kernel))) rfl) (dss_one (ds_ret (de_tup (da_cons (de_tup (da_cons (de_slice B.bs.toBd (de_var (Sl.of B.bs (i := 2) (x := "word") (by decide +kernel))) (do_some (de_var (Sl.of B.bs (i := 7) (x := "size") (by decide +kernel)))) do_none) (da_cons (de_ixA B.bs.toBd (de_var (Sl.of B.bs (i := 8) (x := "both") (by decide +kernel))) (de_int) (fun _ _ => rfl)) (da_cons (de_ixA B.bs.toBd (de_var (Sl.of B.bs (i := 8) (x := "both") (by decide +kernel))) (de_int) (fun _ _ => rfl)) (da_cons (de_var (Sl.of B.bs (i := 6) (x := "unlike") (by decide +kernel))) (da_nil)))))) (da_cons (de_bl) (da_nil)))))) (dss_nil)) (dss_cons (ds_if (dt_bool (dw_and (dt_cmp (dop_eq B.bs.toBd) (de_callB B.bs.toBd (dc_len B.bs.toBd) (Bn.of B.bs T.n_len bt_len (by decide +kernel) (by decide +kernel)) (da_cons (de_var (Sl.of B.bs (i := 3) (x := "rest") (by decide +kernel))) (da_nil))) (de_var (Sl.of B.bs (i := 7) (x := "size") (by decide +kernel))) rfl) (dw_and1 (dt_cmp (dop_gtD B.bs.toBd) (de_ixA B.bs.toBd (de_var (Sl.of B.bs (i := 8) (x := "both") (by decide +kernel))) (de_int) (fun _ _ => rfl)) (de_ixA B.bs.toBd (de_var (Sl.of B.bs (i := 8) (x := "both") (by decide +kernel))) (de_int) (fun _ _ => rfl)) rfl)))) (dss_one (ds_ret (de_tup (da_cons (de_tup (da_cons (de_tup (da_nil)) (da_cons (de_ixA B.bs.toBd (de_var (Sl.of B.bs (i := 8) (x := "both") (by decide +kernel))) (de_int) (fun _ _ => rfl)) (da_cons (de_ixA B.bs.toBd (de_var (Sl.of B.bs (i := 8) (x := "both") (by decide +kernel))) (de_int) (fun _ _ => rfl)) (da_cons (de_var (Sl.of B.bs (i := 6) (x := "unlike") (by decide +kernel))) (da_nil)))))) (da_cons (de_bl) (da_nil)))))) (dss_nil)) (dss_one (ds_ret (de_tup (da_cons (de_tup (da_cons (de_slice B.bs.toBd (de_var (Sl.of B.bs (i := 3) (x := "rest") (by decide +kernel))) (do_some (de_var (Sl.of B.bs (i := 7) (x := "size") (by decide +kernel)))) do_none) (da_cons (de_ixA B.bs.toBd (de_var (Sl.of B.bs (i := 8) (x := "both") (by decide +kernel))) (de_int) (fun _ _ => rfl)) (da_cons (de_ixA B.bs.toBd (de_var (Sl.of B.bs (i := 8) (x := "both") (by decide +kernel))) (de_int) (fun _ _ => rfl)) (da_cons (de_var (Sl.of B.bs (i := 6) (x := "unlike") (by decide +kernel))) (da_nil)))))) (da_cons (de_bl) (da_nil)))))))))))
abbrev n_alike_steps : List Str := ["one", "other", "state", "steps", "pairs", "at", "sign", "word", "both", "more", "longer", "step"]
theorem sc_alike_steps : FnScope n_alike_steps ["one", "other", "state"] (defScope st_alike_steps) := ⟨rfl, rfl, rfl, by decide +kernel, rfl, by decide +kernel, by decide +kernel⟩
theorem der_alike_steps {G : Gx} (T : Tx G.K G.mg) {s_grown : DSp} (F_grown : Fd G 4 3 T.f_grown s_grown) {s_settled : DSp} (F_settled : Fd G 3 3 T.f_settled s_settled) {s_Code_table : DSp} (F_Code_table : Fd G 1 1 T.f_Code_table s_Code_table) (X : Cx) (W : WX) (B : Bf G 4 n_alike_steps (defScope st_alike_steps) X W) : DSs G X W (defBody st_alike_steps) (W_alike_steps T.C_Code s_grown s_settled s_Code_table) :=
  dss_cons (ds_set (Sn.of B (i := 3) (x := "steps") (by decide +kernel)) (de_lstO (da_nil))) (dss_cons (ds_set (Sn.of B (i := 4) (x := "pairs") (by decide +kernel)) (de_meth0 B.bs.toBd T.cl_Code T.me_Code_table F_Code_table (by decide) (de_var (Sl.of B.bs (i := 0) (x := "one") (by decide +kernel))))) (dss_cons (ds_for B.bs.toBd (di_range1 B.bs.toBd (Gl.of B.bs (by decide +kernel)) T.n_range (da_cons (de_callB B.bs.toBd (dc_len B.bs.toBd) (Bn.of B.bs T.n_len bt_len (by decide +kernel) (by decide +kernel)) (da_cons (de_var (Sl.of B.bs (i := 4) (x := "pairs") (by decide +kernel))) (da_nil))) (da_nil))) (dg_name (Sn.of B (i := 5) (x := "at") (by decide +kernel))) (dss_cons (ds_asg (de_ixA B.bs.toBd (de_var (Sl.of B.bs (i := 4) (x := "pairs") (by decide +kernel))) (de_var (Sl.of B.bs (i := 5) (x := "at") (by decide +kernel))) (fun _ _ => rfl)) (dg_tup B.bs.toBd (n := 2) (dgs_cons (dg_name (Sn.of B (i := 6) (x := "sign") (by decide +kernel))) (dgs_cons (dg_name (Sn.of B (i := 7) (x := "word") (by decide +kernel))) (dgs_nil))) (gl_len (gl_cons gt_nm (gl_cons gt_nm (gl_nil)))))) (dss_cons (ds_set (Sn.of B (i := 8) (x := "both") (by decide +kernel)) (de_call B.bs.toBd F_settled (by decide) (Gn.of B.bs T.m_settled (by decide +kernel)) (da_cons (de_var (Sl.of B.bs (i := 1) (x := "other") (by decide +kernel))) (da_cons (de_bin (dop_add B.bs.toBd) (de_ixA B.bs.toBd (de_var (Sl.of B.bs (i := 2) (x := "state") (by decide +kernel))) (de_int) (fun _ _ => rfl)) (de_var (Sl.of B.bs (i := 7) (x := "word") (by decide +kernel)))) (da_cons (de_bin (dop_add B.bs.toBd) (de_ixA B.bs.toBd (de_var (Sl.of B.bs (i := 2) (x := "state") (by decide +kernel))) (de_int) (fun _ _ => rfl)) (de_var (Sl.of B.bs (i := 7) (x := "word") (by decide +kernel)))) (da_nil)))))) (dss_cons (ds_expr (de_bm B.bs.toBd PySem.F.slot_list_append PySem.F.type_list_append md_append (de_var (Sl.of B.bs (i := 3) (x := "steps") (by decide +kernel))) (da_cons (de_tup (da_cons (de_tup (da_cons (de_tup (da_nil)) (da_cons (de_ixA B.bs.toBd (de_var (Sl.of B.bs (i := 8) (x := "both") (by decide +kernel))) (de_int) (fun _ _ => rfl)) (da_cons (de_ixA B.bs.toBd (de_var (Sl.of B.bs (i := 8) (x := "both") (by decide +kernel))) (de_int) (fun _ _ => rfl)) (da_cons (de_bl) (da_nil)))))) (da_cons (de_lst (da_cons (de_var (Sl.of B.bs (i := 6) (x := "sign") (by decide +kernel))) (da_nil))) (da_cons (de_lst (da_cons (de_var (Sl.of B.bs (i := 6) (x := "sign") (by decide +kernel))) (da_nil))) (da_cons (de_bl) (da_nil)))))) (da_nil)))) (dss_one (ds_for B.bs.toBd (di_list B.bs.toBd (de_slice B.bs.toBd (de_var (Sl.of B.bs (i := 4) (x := "pairs") (by decide +kernel))) (do_some (de_bin (dop_add B.bs.toBd) (de_var (Sl.of B.bs (i := 5) (x := "at") (by decide +kernel))) (de_int))) do_none)) (dg_tup B.bs.toBd (n := 2) (dgs_cons (dg_name (Sn.of B (i := 9) (x := "more") (by decide +kernel))) (dgs_cons (dg_name (Sn.of B (i := 10) (x := "longer") (by decide +kernel))) (dgs_nil))) (gl_len (gl_cons gt_nm (gl_cons gt_nm (gl_nil))))) (dss_cons (ds_set (Sn.of B (i := 11) (x := "step") (by decide +kernel)) (de_call B.bs.toBd F_grown (by decide) (Gn.of B.bs T.m_grown (by decide +kernel)) (da_cons (de_var (Sl.of B.bs (i := 1) (x := "other") (by decide +kernel))) (da_cons (de_tup (da_cons (de_var (Sl.of B.bs (i := 7) (x := "word") (by decide +kernel))) (da_cons (de_ixA B.bs.toBd (de_var (Sl.of B.bs (i := 2) (x := "state") (by decide +kernel))) (de_int) (fun _ _ => rfl)) (da_cons (de_ixA B.bs.toBd (de_var (Sl.of B.bs (i := 2) (x := "state") (by decide +kernel))) (de_int) (fun _ _ => rfl)) (da_cons (de_bl) (da_nil)))))) (da_cons (de_var (Sl.of B.bs (i := 10) (x := "longer") (by decide +kernel))) (da_nil)))))) (dss_one (ds_if (dt_cmp dop_notN (de_var (Sl.of B.bs (i := 11) (x := "step") (by decide +kernel))) (de_non) rfl) (dss_one (ds_expr (de_bm B.bs.toBd PySem.F.slot_list_append PySem.F.type_list_append md_append (de_var (Sl.of B.bs (i := 3) (x := "steps") (by decide +kernel))) (da_cons (de_tup (da_cons (de_ixA B.bs.toBd (de_var (Sl.of B.bs (i := 11) (x := "step") (by decide +kernel))) (de_int) (fun _ _ => rfl)) (da_cons (de_lst (da_cons (de_var (Sl.of B.bs (i := 6) (x := "sign") (by decide +kernel))) (da_nil))) (da_cons (de_lst (da_cons (de_var (Sl.of B.bs (i := 9) (x := "more") (by decide +kernel))) (da_nil))) (da_cons (de_ixA B.bs.toBd (de_var (Sl.of B.bs (i := 11) (x := "step") (by decide +kernel))) (de_int) (fun _ _ => rfl)) (da_nil)))))) (da_nil))))) (dss_nil)))))))))) (dss_one (ds_ret (de_varF (Sl.of B.bs (i := 3) (x := "steps") (by decide +kernel)))))))
abbrev n_next_steps : List Str := ["one", "other", "state", "rest", "left", "right", "unlike", "steps", "sign", "word", "step"]
theorem sc_next_steps : FnScope n_next_steps ["one", "other", "state"] (defScope st_next_steps) := ⟨rfl, rfl, rfl, by decide +kernel, rfl, by decide +kernel, by decide +kernel⟩
theorem der_next_steps {G : Gx} (T : Tx G.K G.mg) {s_Code_table : DSp} (F_Code_table : Fd G 1 1 T.f_Code_table s_Code_table) {s_grown : DSp} (F_grown : Fd G 4 3 T.f_grown s_grown) {s_alike_steps : DSp} (F_alike_steps : Fd G 5 3 T.f_alike_steps s_alike_steps) (X : Cx) (W : WX) (B : Bf G 5 n_next_steps (defScope st_next_steps) X W) : DSs G X W (defBody st_next_steps) (W_next_steps T.C_Code s_Code_table s_grown s_alike_steps) :=
  dss_cons (ds_asg (de_var (Sl.of B.bs (i := 2) (x := "state") (by decide +kernel))) (dg_tup B.bs.toBd (n := 4) (dgs_cons (dg_name (Sn.of B (i := 3) (x := "rest") (by decide +kernel))) (dgs_cons (dg_name (Sn.of B (i := 4) (x := "left") (by decide +kernel))) (dgs_cons (dg_name (Sn.of B (i := 5) (x := "right") (by decide +kernel))) (dgs_cons (dg_name (Sn.of B (i := 6) (x := "unlike") (by decide +kernel))) (dgs_nil))))) (gl_len (gl_cons gt_nm (gl_cons gt_nm (gl_cons gt_nm (gl_cons gt_nm (gl_nil)))))))) (dss_cons (ds_if (dt_not (dt_val (de_var (Sl.of B.bs (i := 6) (x := "unlike") (by decide +kernel))))) (dss_one (ds_ret (de_call B.bs.toBd F_alike_steps (by decide) (Gn.of B.bs T.m_alike_steps (by decide +kernel)) (da_cons (de_var (Sl.of B.bs (i := 0) (x := "one") (by decide +kernel))) (da_cons (de_var (Sl.of B.bs (i := 1) (x := "other") (by decide +kernel))) (da_cons (de_var (Sl.of B.bs (i := 2) (x := "state") (by decide +kernel))) (da_nil))))))) (dss_nil)) (dss_cons (ds_set (Sn.of B (i := 7) (x := "steps") (by decide +kernel)) (de_lstO (da_nil))) (dss_cons (ds_for B.bs.toBd (di_list B.bs.toBd (de_meth0 B.bs.toBd T.cl_Code T.me_Code_table F_Code_table (by decide) (de_var (Sl.of B.bs (i := 0) (x := "one") (by decide +kernel))))) (dg_tup B.bs.toBd (n := 2) (dgs_cons (dg_name (Sn.of B (i := 8) (x := "sign") (by decide +kernel))) (dgs_cons (dg_name (Sn.of B (i := 9) (x := "word") (by decide +kernel))) (dgs_nil))) (gl_len (gl_cons gt_nm (gl_cons gt_nm (gl_nil))))) (dss_one (ds_if (dt_cmp (dop_eq B.bs.toBd) (de_var (Sl.of B.bs (i := 3) (x := "rest") (by decide +kernel))) (de_tup (da_nil)) rfl) (dss_cons (ds_expr (de_bm B.bs.toBd PySem.F.slot_list_append PySem.F.type_list_append md_append (de_var (Sl.of B.bs (i := 7) (x := "steps") (by decide +kernel))) (da_cons (de_tup (da_cons (de_tup (da_cons (de_var (Sl.of B.bs (i := 9) (x := "word") (by decide +kernel))) (da_cons (de_var (Sl.of B.bs (i := 4) (x := "left") (by decide +kernel))) (da_cons (de_var (Sl.of B.bs (i := 5) (x := "right") (by decide +kernel))) (da_cons (de_bl) (da_nil)))))) (da_cons (de_lst (da_cons (de_var (Sl.of B.bs (i := 8) (x := "sign") (by decide +kernel))) (da_nil))) (da_cons (de_lst (da_nil)) (da_cons (de_bl) (da_nil)))))) (da_nil)))) (dss_one (ds_expr (de_bm B.bs.toBd PySem.F.slot_list_append PySem.F.type_list_append md_append (de_var (Sl.of B.bs (i := 7) (x := "steps") (by decide +kernel))) (da_cons (de_tup (da_cons (de_tup (da_cons (de_var (Sl.of B.bs (i := 9) (x := "word") (by decide +kernel))) (da_cons (de_var (Sl.of B.bs (i := 5) (x := "right") (by decide +kernel))) (da_cons (de_var (Sl.of B.bs (i := 4) (x := "left") (by decide +kernel))) (da_cons (de_bl) (da_nil)))))) (da_cons (de_lst (da_nil)) (da_cons (de_lst (da_cons (de_var (Sl.of B.bs (i := 8) (x := "sign") (by decide +kernel))) (da_nil))) (da_cons (de_bl) (da_nil)))))) (da_nil)))))) (dss_cons (ds_set (Sn.of B (i := 10) (x := "step") (by decide +kernel)) (de_call B.bs.toBd F_grown (by decide) (Gn.of B.bs T.m_grown (by decide +kernel)) (da_cons (de_var (Sl.of B.bs (i := 1) (x := "other") (by decide +kernel))) (da_cons (de_var (Sl.of B.bs (i := 2) (x := "state") (by decide +kernel))) (da_cons (de_var (Sl.of B.bs (i := 9) (x := "word") (by decide +kernel))) (da_nil)))))) (dss_one (ds_if (dt_cmp dop_notN (de_var (Sl.of B.bs (i := 10) (x := "step") (by decide +kernel))) (de_non) rfl) (dss_one (ds_expr (de_bm B.bs.toBd PySem.F.slot_list_append PySem.F.type_list_append md_append (de_var (Sl.of B.bs (i := 7) (x := "steps") (by decide +kernel))) (da_cons (de_tup (da_cons (de_ixA B.bs.toBd (de_var (Sl.of B.bs (i := 10) (x := "step") (by decide +kernel))) (de_int) (fun _ _ => rfl)) (da_cons (de_lst (da_nil)) (da_cons (de_lst (da_cons (de_var (Sl.of B.bs (i := 8) (x := "sign") (by decide +kernel))) (da_nil))) (da_cons (de_ixA B.bs.toBd (de_var (Sl.of B.bs (i := 10) (x := "step") (by decide +kernel))) (de_int) (fun _ _ => rfl)) (da_nil)))))) (da_nil))))) (dss_nil))))))) (dss_one (ds_ret (de_varF (Sl.of B.bs (i := 7) (x := "steps") (by decide +kernel))))))))
abbrev n_Code_longest : List Str := ["self", "word"]
theorem sc_Code_longest : FnScope n_Code_longest ["self"] (defScope st_Code_longest) := ⟨rfl, rfl, rfl, by decide +kernel, rfl, by decide +kernel, by decide +kernel⟩
theorem der_Code_longest {G : Gx} (T : Tx G.K G.mg) (X : Cx) (W : WX) (B : Bf G 0 n_Code_longest (defScope st_Code_longest) X W) : DSs G X W (defBody st_Code_longest) (W_Code_longest T.C_Code) :=
  dss_one (ds_ret (de_callBK B.bs.toBd (dc_maxDef B.bs.toBd) (Bn.of B.bs T.n_max bt_max (by decide +kernel) (by decide +kernel)) (da_cons (de_lc B.bs.toBd (own := [("word", 1)]) (own2 := [1]) (di_keys B.bs.toBd (de_fld B.bs.toBd T.cl_Code T.na_Code_readings (de_var (Sl.of B.bs (i := 0) (x := "self") (by decide +kernel))))) (by rw [B.bs.eN, B.bs.esc]; decide +kernel) (by decide) (fun X1 B1_ h1 h2 => have B1 := Bs.blk B.bs B1_ h1 h2; dg_name (Sn.blk B1 (i := 1) (x := "word") (by decide +kernel))) (fun X1 B1_ h1 h2 => have B1 := Bs.blk B.bs B1_ h1 h2; dts_nil) (fun X1 B1_ h1 h2 => have B1 := Bs.blk B.bs B1_ h1 h2; (de_callB B1.toBd (dc_len B1.toBd) (Bn.of B1 T.n_len bt_len (by decide +kernel) (by decide +kernel)) (da_cons (de_var (Sl.of B1 (i := 1) (x := "word") (by decide +kernel))) (da_nil))))) (da_nil)) (dkw_cons (de_int) (dkw_nil))))
abbrev n_sign_from : List Str := ["code", "row", "at", "size", "one"]
theorem sc_sign_from : FnScope n_sign_from ["code", "row", "at"] (defScope st_sign_from) := ⟨rfl, rfl, rfl, by decide +kernel, rfl, by decide +kernel, by decide +kernel⟩
theorem der_sign_from {G : Gx} (T : Tx G.K G.mg) {s_Code_longest : DSp} (F_Code_longest : Fd G 1 1 T.f_Code_longest s_Code_longest) {s_Code_sign : DSp} (F_Code_sign : Fd G 1 2 T.f_Code_sign s_Code_sign) (X : Cx) (W : WX) (B : Bf G 1 n_sign_from (defScope st_sign_from) X W) : DSs G X W (defBody st_sign_from) (W_sign_from T.C_Code s_Code_longest s_Code_sign) :=
  dss_cons (ds_for B.bs.toBd (di_range2 B.bs.toBd (Gl.of B.bs (by decide +kernel)) T.n_range (da_cons (de_int) (da_cons (de_bin (dop_add B.bs.toBd) (de_callB B.bs.toBd (dc_minA B.bs.toBd) (Bn.of B.bs T.n_min bt_min (by decide +kernel) (by decide +kernel)) (da_cons (de_meth0 B.bs.toBd T.cl_Code T.me_Code_longest F_Code_longest (by decide) (de_var (Sl.of B.bs (i := 0) (x := "code") (by decide +kernel)))) (da_cons (de_bin dop_sub (de_callB B.bs.toBd (dc_len B.bs.toBd) (Bn.of B.bs T.n_len bt_len (by decide +kernel) (by decide +kernel)) (da_cons (de_var (Sl.of B.bs (i := 1) (x := "row") (by decide +kernel))) (da_nil))) (de_var (Sl.of B.bs (i := 2) (x := "at") (by decide +kernel)))) (da_nil)))) (de_int)) (da_nil)))) (dg_name (Sn.of B (i := 3) (x := "size") (by decide +kernel))) (dss_cons (ds_set (Sn.of B (i := 4) (x := "one") (by decide +kernel)) (de_meth B.bs.toBd T.cl_Code T.me_Code_sign F_Code_sign (by decide) (de_var (Sl.of B.bs (i := 0) (x := "code") (by decide +kernel))) (da_cons (de_callTy B.bs.toBd (dc_tuple B.bs.toBd) (Bn.of B.bs T.n_tuple bt_tuple (by decide +kernel) (by decide +kernel)) (da_cons (de_slice B.bs.toBd (de_var (Sl.of B.bs (i := 1) (x := "row") (by decide +kernel))) (do_some (de_var (Sl.of B.bs (i := 2) (x := "at") (by decide +kernel)))) (do_some (de_bin (dop_add B.bs.toBd) (de_var (Sl.of B.bs (i := 2) (x := "at") (by decide +kernel))) (de_var (Sl.of B.bs (i := 3) (x := "size") (by decide +kernel)))))) (da_nil))) (da_nil)))) (dss_one (ds_if (dt_cmp dop_notN (de_var (Sl.of B.bs (i := 4) (x := "one") (by decide +kernel))) (de_non) rfl) (dss_one (ds_ret (de_tup (da_cons (de_var (Sl.of B.bs (i := 4) (x := "one") (by decide +kernel))) (da_cons (de_bin (dop_add B.bs.toBd) (de_var (Sl.of B.bs (i := 2) (x := "at") (by decide +kernel))) (de_var (Sl.of B.bs (i := 3) (x := "size") (by decide +kernel)))) (da_nil)))))) (dss_nil))))) (dss_one (ds_ret (de_non)))
abbrev n_spilt : List Str := ["code", "row", "told", "at", "found"]
theorem sc_spilt : FnScope n_spilt ["code", "row"] (defScope st_spilt) := ⟨rfl, rfl, rfl, by decide +kernel, rfl, by decide +kernel, by decide +kernel⟩
theorem der_spilt {G : Gx} (T : Tx G.K G.mg) {s_sign_from : DSp} (F_sign_from : Fd G 2 3 T.f_sign_from s_sign_from) (X : Cx) (W : WX) (B : Bf G 2 n_spilt (defScope st_spilt) X W) : DSs G X W (defBody st_spilt) (W_spilt s_sign_from) :=
  dss_cons (ds_set (Sn.of B (i := 2) (x := "told") (by decide +kernel)) (de_lstO (da_nil))) (dss_cons (ds_set (Sn.of B (i := 3) (x := "at") (by decide +kernel)) (de_int)) (dss_cons (ds_while B.bs.toBd (dt_cmp (dop_ltD B.bs.toBd) (de_var (Sl.of B.bs (i := 3) (x := "at") (by decide +kernel))) (de_callB B.bs.toBd (dc_len B.bs.toBd) (Bn.of B.bs T.n_len bt_len (by decide +kernel) (by decide +kernel)) (da_cons (de_var (Sl.of B.bs (i := 1) (x := "row") (by decide +kernel))) (da_nil))) rfl) (dss_cons (ds_set (Sn.of B (i := 4) (x := "found") (by decide +kernel)) (de_call B.bs.toBd F_sign_from (by decide) (Gn.of B.bs T.m_sign_from (by decide +kernel)) (da_cons (de_var (Sl.of B.bs (i := 0) (x := "code") (by decide +kernel))) (da_cons (de_var (Sl.of B.bs (i := 1) (x := "row") (by decide +kernel))) (da_cons (de_var (Sl.of B.bs (i := 3) (x := "at") (by decide +kernel))) (da_nil)))))) (dss_cons (ds_if (dt_cmp dop_isN (de_var (Sl.of B.bs (i := 4) (x := "found") (by decide +kernel))) (de_non) rfl) (dss_one (ds_set (Sn.of B (i := 4) (x := "found") (by decide +kernel)) (de_tup (da_cons (de_non) (da_cons (de_bin (dop_add B.bs.toBd) (de_var (Sl.of B.bs (i := 3) (x := "at") (by decide +kernel))) (de_int)) (da_nil)))))) (dss_nil)) (dss_cons (ds_expr (de_bm B.bs.toBd PySem.F.slot_list_append PySem.F.type_list_append md_append (de_var (Sl.of B.bs (i := 2) (x := "told") (by decide +kernel))) (da_cons (de_tup (da_cons (de_var (Sl.of B.bs (i := 3) (x := "at") (by decide +kernel))) (da_cons (de_ixA B.bs.toBd (de_var (Sl.of B.bs (i := 4) (x := "found") (by decide +kernel))) (de_int) (fun _ _ => rfl)) (da_nil)))) (da_nil)))) (dss_one (ds_set (Sn.of B (i := 3) (x := "at") (by decide +kernel)) (de_ixA B.bs.toBd (de_var (Sl.of B.bs (i := 4) (x := "found") (by decide +kernel))) (de_int) (fun _ _ => rfl)))))))) (dss_one (ds_ret (de_varF (Sl.of B.bs (i := 2) (x := "told") (by decide +kernel)))))))
abbrev n_spill : List Str := ["code", "row", "at", "entry"]
theorem sc_spill : FnScope n_spill ["code", "row"] (defScope st_spill) := ⟨rfl, rfl, rfl, by decide +kernel, rfl, by decide +kernel, by decide +kernel⟩
theorem der_spill {G : Gx} (T : Tx G.K G.mg) {s_spilt : DSp} (F_spilt : Fd G 3 2 T.f_spilt s_spilt) (X : Cx) (W : WX) (B : Bf G 3 n_spill (defScope st_spill) X W) : DSs G X W (defBody st_spill) (W_spill s_spilt) :=
  dss_one (ds_ret (de_lc B.bs.toBd (own := [("at", 2), ("entry", 3)]) (own2 := [2, 3]) (di_list B.bs.toBd (de_call B.bs.toBd F_spilt (by decide) (Gn.of B.bs T.m_spilt (by decide +kernel)) (da_cons (de_var (Sl.of B.bs (i := 0) (x := "code") (by decide +kernel))) (da_cons (de_var (Sl.of B.bs (i := 1) (x := "row") (by decide +kernel))) (da_nil))))) (by rw [B.bs.eN, B.bs.esc]; decide +kernel) (by decide) (fun X1 B1_ h1 h2 => have B1 := Bs.blk B.bs B1_ h1 h2; dg_tup B1.toBd (n := 2) (dgs_cons (dg_name (Sn.blk B1 (i := 2) (x := "at") (by decide +kernel))) (dgs_cons (dg_name (Sn.blk B1 (i := 3) (x := "entry") (by decide +kernel))) (dgs_nil))) (gl_len (gl_cons gt_nm (gl_cons gt_nm (gl_nil))))) (fun X1 B1_ h1 h2 => have B1 := Bs.blk B.bs B1_ h1 h2; dts_nil) (fun X1 B1_ h1 h2 => have B1 := Bs.blk B.bs B1_ h1 h2; (de_var (Sl.of B1 (i := 3) (x := "entry") (by decide +kernel))))))
abbrev n_is_end : List Str := ["other", "state", "rest", "left", "right", "unlike"]
theorem sc_is_end : FnScope n_is_end ["other", "state"] (defScope st_is_end) := ⟨rfl, rfl, rfl, by decide +kernel, rfl, by decide +kernel, by decide +kernel⟩
theorem der_is_end {G : Gx} (T : Tx G.K G.mg) {s_spill : DSp} (F_spill : Fd G 4 2 T.f_spill s_spill) (X : Cx) (W : WX) (B : Bf G 4 n_is_end (defScope st_is_end) X W) : DSs G X W (defBody st_is_end) (W_is_end s_spill) :=
  dss_cons (ds_asg (de_var (Sl.of B.bs (i := 1) (x := "state") (by decide +kernel))) (dg_tup B.bs.toBd (n := 4) (dgs_cons (dg_name (Sn.of B (i := 2) (x := "rest") (by decide +kernel))) (dgs_cons (dg_name (Sn.of B (i := 3) (x := "left") (by decide +kernel))) (dgs_cons (dg_name (Sn.of B (i := 4) (x := "right") (by decide +kernel))) (dgs_cons (dg_name (Sn.of B (i := 5) (x := "unlike") (by decide +kernel))) (dgs_nil))))) (gl_len (gl_cons gt_nm (gl_cons gt_nm (gl_cons gt_nm (gl_cons gt_nm (gl_nil)))))))) (dss_one (ds_ret (de_and (de_var (Sl.of B.bs (i := 5) (x := "unlike") (by decide +kernel))) (de_and (de_cmp (dop_eq B.bs.toBd) (de_var (Sl.of B.bs (i := 2) (x := "rest") (by decide +kernel))) (de_tup (da_nil)) rfl) (de_one (de_cmp (dop_eq B.bs.toBd) (de_call B.bs.toBd F_spill (by decide) (Gn.of B.bs T.m_spill (by decide +kernel)) (da_cons (de_var (Sl.of B.bs (i := 0) (x := "other") (by decide +kernel))) (da_cons (de_callTy B.bs.toBd (dc_list B.bs.toBd) (Bn.of B.bs T.n_list bt_list (by decide +kernel) (by decide +kernel)) (da_cons (de_var (Sl.of B.bs (i := 3) (x := "left") (by decide +kernel))) (da_nil))) (da_nil)))) (de_call B.bs.toBd F_spill (by decide) (Gn.of B.bs T.m_spill (by decide +kernel)) (da_cons (de_var (Sl.of B.bs (i := 0) (x := "other") (by decide +kernel))) (da_cons (de_callTy B.bs.toBd (dc_list B.bs.toBd) (Bn.of B.bs T.n_list bt_list (by decide +kernel) (by decide +kernel)) (da_cons (de_var (Sl.of B.bs (i := 4) (x := "right") (by decide +kernel))) (da_nil))) (da_nil)))) rfl))))))
abbrev n_shows_apart : List Str := ["one", "other", "states", "known", "todo", "state", "step"]
theorem sc_shows_apart : FnScope n_shows_apart ["one", "other", "states"] (defScope st_shows_apart) := ⟨rfl, rfl, rfl, by decide +kernel, rfl, by decide +kernel, by decide +kernel⟩
theorem der_shows_apart {G : Gx} (T : Tx G.K G.mg) {s_next_steps : DSp} (F_next_steps : Fd G 6 3 T.f_next_steps s_next_steps) {s_is_end : DSp} (F_is_end : Fd G 5 2 T.f_is_end s_is_end) (X : Cx) (W : WX) (B : Bf G 6 n_shows_apart (defScope st_shows_apart) X W) : DSs G X W (defBody st_shows_apart) (W_shows_apart s_next_steps s_is_end) :=
  dss_cons (ds_set (Sn.of B (i := 3) (x := "known") (by decide +kernel)) (de_dict1 B.bs.toBd ((T.c_FIRST_STATE B.bs (by decide +kernel))) (de_bl))) (dss_cons (ds_set (Sn.of B (i := 4) (x := "todo") (by decide +kernel)) (de_lstO (da_cons ((T.c_FIRST_STATE B.bs (by decide +kernel))) (da_nil)))) (dss_cons (ds_while B.bs.toBd (dt_cmp (dop_ne B.bs.toBd) (de_var (Sl.of B.bs (i := 4) (x := "todo") (by decide +kernel))) (de_lst (da_nil)) rfl) (dss_cons (ds_set (Sn.of B (i := 5) (x := "state") (by decide +kernel)) (de_bm0 B.bs.toBd PySem.F.slot_list_pop PySem.F.type_list_pop md_pop (de_var (Sl.of B.bs (i := 4) (x := "todo") (by decide +kernel))))) (dss_cons (ds_if (dt_bool (dw_or (dt_cmp (dop_notIn B.bs.toBd) (de_var (Sl.of B.bs (i := 5) (x := "state") (by decide +kernel))) (de_var (Sl.of B.bs (i := 2) (x := "states") (by decide +kernel))) rfl) (dw_or1 (dt_val (de_call B.bs.toBd F_is_end (by decide) (Gn.of B.bs T.m_is_end (by decide +kernel)) (da_cons (de_var (Sl.of B.bs (i := 1) (x := "other") (by decide +kernel))) (da_cons (de_var (Sl.of B.bs (i := 5) (x := "state") (by decide +kernel))) (da_nil)))))))) (dss_one (ds_ret (de_fgt (de_bl)))) (dss_nil)) (dss_one (ds_for B.bs.toBd (di_list B.bs.toBd (de_call B.bs.toBd F_next_steps (by decide) (Gn.of B.bs T.m_next_steps (by decide +kernel)) (da_cons (de_var (Sl.of B.bs (i := 0) (x := "one") (by decide +kernel))) (da_cons (de_var (Sl.of B.bs (i := 1) (x := "other") (by decide +kernel))) (da_cons (de_var (Sl.of B.bs (i := 5) (x := "state") (by decide +kernel))) (da_nil)))))) (dg_name (Sn.of B (i := 6) (x := "step") (by decide +kernel))) (dss_one (ds_if (dt_cmp (dop_notIn B.bs.toBd) (de_ixA B.bs.toBd (de_var (Sl.of B.bs (i := 6) (x := "step") (by decide +kernel))) (de_int) (fun _ _ => rfl)) (de_var (Sl.of B.bs (i := 3) (x := "known") (by decide +kernel))) rfl) (dss_cons (ds_put B.bs.toBd (de_var (Sl.of B.bs (i := 3) (x := "known") (by decide +kernel))) (de_ixA B.bs.toBd (de_var (Sl.of B.bs (i := 6) (x := "step") (by decide +kernel))) (de_int) (fun _ _ => rfl)) (de_bl)) (dss_one (ds_expr (de_bm B.bs.toBd PySem.F.slot_list_append PySem.F.type_list_append md_append (de_var (Sl.of B.bs (i := 4) (x := "todo") (by decide +kernel))) (da_cons (de_ixA B.bs.toBd (de_var (Sl.of B.bs (i := 6) (x := "step") (by decide +kernel))) (de_int) (fun _ _ => rfl)) (da_nil)))))) (dss_nil)))))))) (dss_one (ds_ret (de_fgt (de_bl))))))
abbrev n__law_tells : List Str := ["_law_mine", "_law_theirs", "_law_states", "_law_due", "_law_handed", "_law_found"]
theorem sc__law_tells : FnScope n__law_tells ["_law_mine", "_law_theirs", "_law_states", "_law_due"] (defScope st__law_tells) := ⟨rfl, rfl, rfl, by decide +kernel, rfl, by decide +kernel, by decide +kernel⟩
theorem der__law_tells {G : Gx} (T : Tx G.K G.mg) {s_shows_apart : DSp} (F_shows_apart : Fd G 7 3 T.f_shows_apart s_shows_apart) (X : Cx) (W : WX) (B : Bf G 7 n__law_tells (defScope st__law_tells) X W) : DSs G X W (defBody st__law_tells) (W__law_tells s_shows_apart) :=
  dss_cons (ds_set (Sn.of B (i := 4) (x := "_law_handed") (by decide +kernel)) (de_callTy B.bs.toBd (dc_list B.bs.toBd) (Bn.of B.bs T.n_list bt_list (by decide +kernel) (by decide +kernel)) (da_cons (de_var (Sl.of B.bs (i := 2) (x := "_law_states") (by decide +kernel))) (da_nil)))) (dss_cons (ds_set (Sn.of B (i := 5) (x := "_law_found") (by decide +kernel)) (de_call B.bs.toBd F_shows_apart (by decide) (Gn.of B.bs T.m_shows_apart (by decide +kernel)) (da_cons (de_var (Sl.of B.bs (i := 0) (x := "_law_mine") (by decide +kernel))) (da_cons (de_var (Sl.of B.bs (i := 1) (x := "_law_theirs") (by decide +kernel))) (da_cons (de_var (Sl.of B.bs (i := 4) (x := "_law_handed") (by decide +kernel))) (da_nil)))))) (dss_one (ds_ret (de_and (de_callB B.bs.toBd (dc_isi B.bs.toBd) (Bn.of B.bs T.n_isinstance bt_isinstance (by decide +kernel) (by decide +kernel)) (da_cons (de_var (Sl.of B.bs (i := 5) (x := "_law_found") (by decide +kernel))) (da_cons (de_bty B.bs.toBd (Bn.of B.bs T.n_bool bt_bool (by decide +kernel) (by decide +kernel))) (da_nil)))) (de_and (de_cmp (dop_eq B.bs.toBd) (de_var (Sl.of B.bs (i := 5) (x := "_law_found") (by decide +kernel))) (de_var (Sl.of B.bs (i := 3) (x := "_law_due") (by decide +kernel))) rfl) (de_one (de_cmp (dop_eq B.bs.toBd) (de_var (Sl.of B.bs (i := 4) (x := "_law_handed") (by decide +kernel))) (de_var (Sl.of B.bs (i := 2) (x := "_law_states") (by decide +kernel))) rfl)))))))
abbrev n__law_draw : List Str := ["_law_hand", "_law_many", "_law_got", "_law_cell", "_law_number"]
theorem sc__law_draw : FnScope n__law_draw ["_law_hand", "_law_many"] (defScope st__law_draw) := ⟨rfl, rfl, rfl, by decide +kernel, rfl, by decide +kernel, by decide +kernel⟩
theorem der__law_draw {G : Gx} (T : Tx G.K G.mg) (X : Cx) (W : WX) (B : Bf G 0 n__law_draw (defScope st__law_draw) X W) : DSs G X W (defBody st__law_draw) (W__law_draw) :=
  dss_cons (ds_if (dt_cmp (dop_gtD B.bs.toBd) (de_ixA B.bs.toBd (de_var (Sl.of B.bs (i := 0) (x := "_law_hand") (by decide +kernel))) (de_int) (fun _ _ => rfl)) (de_int) rfl) (dss_cons (ds_set (Sn.of B (i := 2) (x := "_law_got") (by decide +kernel)) (de_bin dop_mod (de_ixA B.bs.toBd (de_var (Sl.of B.bs (i := 0) (x := "_law_hand") (by decide +kernel))) (de_int) (fun _ _ => rfl)) (de_var (Sl.of B.bs (i := 1) (x := "_law_many") (by decide +kernel))))) (dss_cons (ds_put B.bs.toBd (de_var (Sl.of B.bs (i := 0) (x := "_law_hand") (by decide +kernel))) (de_int) (de_bin dop_fdv (de_ixA B.bs.toBd (de_var (Sl.of B.bs (i := 0) (x := "_law_hand") (by decide +kernel))) (de_int) (fun _ _ => rfl)) (de_var (Sl.of B.bs (i := 1) (x := "_law_many") (by decide +kernel))))) (dss_one (ds_ret (de_var (Sl.of B.bs (i := 2) (x := "_law_got") (by decide +kernel))))))) (dss_nil)) (dss_cons (ds_augI B.bs.toBd (de_var (Sl.of B.bs (i := 0) (x := "_law_hand") (by decide +kernel))) (de_int) (de_int)) (dss_cons (ds_set (Sn.of B (i := 3) (x := "_law_cell") (by decide +kernel)) (de_bin dop_mod (de_ixA B.bs.toBd (de_ixA B.bs.toBd (de_var (Sl.of B.bs (i := 0) (x := "_law_hand") (by decide +kernel))) (de_int) (fun _ _ => rfl)) (de_bin dop_mod (de_ixA B.bs.toBd (de_var (Sl.of B.bs (i := 0) (x := "_law_hand") (by decide +kernel))) (de_int) (fun _ _ => rfl)) (de_callB B.bs.toBd (dc_len B.bs.toBd) (Bn.of B.bs T.n_len bt_len (by decide +kernel) (by decide +kernel)) (da_cons (de_ixA B.bs.toBd (de_var (Sl.of B.bs (i := 0) (x := "_law_hand") (by decide +kernel))) (de_int) (fun _ _ => rfl)) (da_nil)))) (fun _ _ => rfl)) (de_int))) (dss_cons (ds_set (Sn.of B (i := 4) (x := "_law_number") (by decide +kernel)) (de_bin dop_mod (de_bin (dop_add B.bs.toBd) (de_bin (dop_add B.bs.toBd) (de_bin dop_mul (de_var (Sl.of B.bs (i := 3) (x := "_law_cell") (by decide +kernel))) (de_int)) (de_bin dop_mul (de_ixA B.bs.toBd (de_var (Sl.of B.bs (i := 0) (x := "_law_hand") (by decide +kernel))) (de_int) (fun _ _ => rfl)) (de_int))) (de_int)) (de_int))) (dss_cons (ds_set (Sn.of B (i := 4) (x := "_law_number") (by decide +kernel)) (de_bin dop_mod (de_bin (dop_add B.bs.toBd) (de_bin dop_mul (de_var (Sl.of B.bs (i := 4) (x := "_law_number") (by decide +kernel))) (de_var (Sl.of B.bs (i := 4) (x := "_law_number") (by decide +kernel)))) (de_ixA B.bs.toBd (de_var (Sl.of B.bs (i := 0) (x := "_law_hand") (by decide +kernel))) (de_int) (fun _ _ => rfl))) (de_int))) (dss_cons (ds_set (Sn.of B (i := 4) (x := "_law_number") (by decide +kernel)) (de_bin dop_mod (de_bin (dop_add B.bs.toBd) (de_bin dop_mul (de_var (Sl.of B.bs (i := 4) (x := "_law_number") (by decide +kernel))) (de_int)) (de_int)) (de_int))) (dss_one (ds_ret (de_bin dop_mod (de_bin dop_fdv (de_bin dop_mod (de_bin dop_mul (de_var (Sl.of B.bs (i := 4) (x := "_law_number") (by decide +kernel))) (de_var (Sl.of B.bs (i := 4) (x := "_law_number") (by decide +kernel)))) (de_int)) (de_int)) (de_var (Sl.of B.bs (i := 1) (x := "_law_many") (by decide +kernel)))))))))))
abbrev n__law_word_at : List Str := ["_law_table_here", "_law_row", "_law_at", "_law_sign", "_law_word"]
theorem sc__law_word_at : FnScope n__law_word_at ["_law_table_here", "_law_row", "_law_at"] (defScope st__law_word_at) := ⟨rfl, rfl, rfl, by decide +kernel, rfl, by decide +kernel, by decide +kernel⟩
theorem der__law_word_at {G : Gx} (T : Tx G.K G.mg) (X : Cx) (W : WX) (B : Bf G 0 n__law_word_at (defScope st__law_word_at) X W) : DSs G X W (defBody st__law_word_at) (W__law_word_at) :=
  dss_cons (ds_for B.bs.toBd (di_list B.bs.toBd (de_var (Sl.of B.bs (i := 0) (x := "_law_table_here") (by decide +kernel)))) (dg_tup B.bs.toBd (n := 2) (dgs_cons (dg_name (Sn.of B (i := 3) (x := "_law_sign") (by decide +kernel))) (dgs_cons (dg_name (Sn.of B (i := 4) (x := "_law_word") (by decide +kernel))) (dgs_nil))) (gl_len (gl_cons gt_nm (gl_cons gt_nm (gl_nil))))) (dss_one (ds_if (dt_cmp (dop_eq B.bs.toBd) (de_callTy B.bs.toBd (dc_tuple B.bs.toBd) (Bn.of B.bs T.n_tuple bt_tuple (by decide +kernel) (by decide +kernel)) (da_cons (de_slice B.bs.toBd (de_var (Sl.of B.bs (i := 1) (x := "_law_row") (by decide +kernel))) (do_some (de_var (Sl.of B.bs (i := 2) (x := "_law_at") (by decide +kernel)))) (do_some (de_bin (dop_add B.bs.toBd) (de_var (Sl.of B.bs (i := 2) (x := "_law_at") (by decide +kernel))) (de_callB B.bs.toBd (dc_len B.bs.toBd) (Bn.of B.bs T.n_len bt_len (by decide +kernel) (by decide +kernel)) (da_cons (de_var (Sl.of B.bs (i := 4) (x := "_law_word") (by decide +kernel))) (da_nil)))))) (da_nil))) (de_var (Sl.of B.bs (i := 4) (x := "_law_word") (by decide +kernel))) rfl) (dss_one (ds_ret (de_tup (da_cons (de_var (Sl.of B.bs (i := 3) (x := "_law_sign") (by decide +kernel))) (da_cons (de_callB B.bs.toBd (dc_len B.bs.toBd) (Bn.of B.bs T.n_len bt_len (by decide +kernel) (by decide +kernel)) (da_cons (de_var (Sl.of B.bs (i := 4) (x := "_law_word") (by decide +kernel))) (da_nil))) (da_nil)))))) (dss_nil)))) (dss_one (ds_ret (de_tup (da_cons (de_non) (da_cons (de_int) (da_nil))))))
abbrev n__law_entries : List Str := ["_law_table_here", "_law_row", "_law_told", "_law_at", "_law_sign", "_law_size"]
theorem sc__law_entries : FnScope n__law_entries ["_law_table_here", "_law_row"] (defScope st__law_entries) := ⟨rfl, rfl, rfl, by decide +kernel, rfl, by decide +kernel, by decide +kernel⟩
theorem der__law_entries {G : Gx} (T : Tx G.K G.mg) {s__law_word_at : DSp} (F__law_word_at : Fd G 1 3 T.f__law_word_at s__law_word_at) (X : Cx) (W : WX) (B : Bf G 1 n__law_entries (defScope st__law_entries) X W) : DSs G X W (defBody st__law_entries) (W__law_entries s__law_word_at) :=
  dss_cons (ds_set (Sn.of B (i := 2) (x := "_law_told") (by decide +kernel)) (de_lstO (da_nil))) (dss_cons (ds_set (Sn.of B (i := 3) (x := "_law_at") (by decide +kernel)) (de_int)) (dss_cons (ds_while B.bs.toBd (dt_cmp (dop_ltD B.bs.toBd) (de_var (Sl.of B.bs (i := 3) (x := "_law_at") (by decide +kernel))) (de_callB B.bs.toBd (dc_len B.bs.toBd) (Bn.of B.bs T.n_len bt_len (by decide +kernel) (by decide +kernel)) (da_cons (de_var (Sl.of B.bs (i := 1) (x := "_law_row") (by decide +kernel))) (da_nil))) rfl) (dss_cons (ds_asg (de_call B.bs.toBd F__law_word_at (by decide) (Gn.of B.bs T.m__law_word_at (by decide +kernel)) (da_cons (de_var (Sl.of B.bs (i := 0) (x := "_law_table_here") (by decide +kernel))) (da_cons (de_var (Sl.of B.bs (i := 1) (x := "_law_row") (by decide +kernel))) (da_cons (de_var (Sl.of B.bs (i := 3) (x := "_law_at") (by decide +kernel))) (da_nil))))) (dg_tup B.bs.toBd (n := 2) (dgs_cons (dg_name (Sn.of B (i := 4) (x := "_law_sign") (by decide +kernel))) (dgs_cons (dg_name (Sn.of B (i := 5) (x := "_law_size") (by decide +kernel))) (dgs_nil))) (gl_len (gl_cons gt_nm (gl_cons gt_nm (gl_nil)))))) (dss_cons (ds_expr (de_bm B.bs.toBd PySem.F.slot_list_append PySem.F.type_list_append md_append (de_var (Sl.of B.bs (i := 2) (x := "_law_told") (by decide +kernel))) (da_cons (de_var (Sl.of B.bs (i := 4) (x := "_law_sign") (by decide +kernel))) (da_nil)))) (dss_one (ds_set (Sn.of B (i := 3) (x := "_law_at") (by decide +kernel)) (de_bin (dop_add B.bs.toBd) (de_var (Sl.of B.bs (i := 3) (x := "_law_at") (by decide +kernel))) (de_var (Sl.of B.bs (i := 5) (x := "_law_size") (by decide +kernel))))))))) (dss_one (ds_ret (de_varF (Sl.of B.bs (i := 2) (x := "_law_told") (by decide +kernel)))))))
abbrev n__law_end : List Str := ["_law_other", "_law_state", "_law_rest", "_law_left", "_law_right", "_law_unlike"]
theorem sc__law_end : FnScope n__law_end ["_law_other", "_law_state"] (defScope st__law_end) := ⟨rfl, rfl, rfl, by decide +kernel, rfl, by decide +kernel, by decide +kernel⟩
theorem der__law_end {G : Gx} (T : Tx G.K G.mg) {s__law_entries : DSp} (F__law_entries : Fd G 2 2 T.f__law_entries s__law_entries) (X : Cx) (W : WX) (B : Bf G 2 n__law_end (defScope st__law_end) X W) : DSs G X W (defBody st__law_end) (W__law_end s__law_entries) :=
  dss_cons (ds_asg (de_var (Sl.of B.bs (i := 1) (x := "_law_state") (by decide +kernel))) (dg_tup B.bs.toBd (n := 4) (dgs_cons (dg_name (Sn.of B (i := 2) (x := "_law_rest") (by decide +kernel))) (dgs_cons (dg_name (Sn.of B (i := 3) (x := "_law_left") (by decide +kernel))) (dgs_cons (dg_name (Sn.of B (i := 4) (x := "_law_right") (by decide +kernel))) (dgs_cons (dg_name (Sn.of B (i := 5) (x := "_law_unlike") (by decide +kernel))) (dgs_nil))))) (gl_len (gl_cons gt_nm (gl_cons gt_nm (gl_cons gt_nm (gl_cons gt_nm (gl_nil)))))))) (dss_one (ds_ret (de_and (de_var (Sl.of B.bs (i := 5) (x := "_law_unlike") (by decide +kernel))) (de_and (de_cmp (dop_eq B.bs.toBd) (de_var (Sl.of B.bs (i := 2) (x := "_law_rest") (by decide +kernel))) (de_tup (da_nil)) rfl) (de_one (de_cmp (dop_eq B.bs.toBd) (de_call B.bs.toBd F__law_entries (by decide) (Gn.of B.bs T.m__law_entries (by decide +kernel)) (da_cons (de_var (Sl.of B.bs (i := 0) (x := "_law_other") (by decide +kernel))) (da_cons (de_callTy B.bs.toBd (dc_list B.bs.toBd) (Bn.of B.bs T.n_list bt_list (by decide +kernel) (by decide +kernel)) (da_cons (de_var (Sl.of B.bs (i := 3) (x := "_law_left") (by decide +kernel))) (da_nil))) (da_nil)))) (de_call B.bs.toBd F__law_entries (by decide) (Gn.of B.bs T.m__law_entries (by decide +kernel)) (da_cons (de_var (Sl.of B.bs (i := 0) (x := "_law_other") (by decide +kernel))) (da_cons (de_callTy B.bs.toBd (dc_list B.bs.toBd) (Bn.of B.bs T.n_list bt_list (by decide +kernel) (by decide +kernel)) (da_cons (de_var (Sl.of B.bs (i := 4) (x := "_law_right") (by decide +kernel))) (da_nil))) (da_nil)))) rfl))))))
abbrev n__law_begins : List Str := ["_law_table_here", "_law_row", "_law_sign", "_law_word"]
theorem sc__law_begins : FnScope n__law_begins ["_law_table_here", "_law_row"] (defScope st__law_begins) := ⟨rfl, rfl, rfl, by decide +kernel, rfl, by decide +kernel, by decide +kernel⟩
theorem der__law_begins {G : Gx} (T : Tx G.K G.mg) (X : Cx) (W : WX) (B : Bf G 0 n__law_begins (defScope st__law_begins) X W) : DSs G X W (defBody st__law_begins) (W__law_begins) :=
  dss_cons (ds_for B.bs.toBd (di_list B.bs.toBd (de_var (Sl.of B.bs (i := 0) (x := "_law_table_here") (by decide +kernel)))) (dg_tup B.bs.toBd (n := 2) (dgs_cons (dg_name (Sn.of B (i := 2) (x := "_law_sign") (by decide +kernel))) (dgs_cons (dg_name (Sn.of B (i := 3) (x := "_law_word") (by decide +kernel))) (dgs_nil))) (gl_len (gl_cons gt_nm (gl_cons gt_nm (gl_nil))))) (dss_cons (ds_if (dt_cmp (dop_eq B.bs.toBd) (de_slice B.bs.toBd (de_var (Sl.of B.bs (i := 1) (x := "_law_row") (by decide +kernel))) do_none (do_some (de_callB B.bs.toBd (dc_len B.bs.toBd) (Bn.of B.bs T.n_len bt_len (by decide +kernel) (by decide +kernel)) (da_cons (de_var (Sl.of B.bs (i := 3) (x := "_law_word") (by decide +kernel))) (da_nil))))) (de_var (Sl.of B.bs (i := 3) (x := "_law_word") (by decide +kernel))) rfl) (dss_one (ds_ret (de_tup (da_cons (de_var (Sl.of B.bs (i := 2) (x := "_law_sign") (by decide +kernel))) (da_cons (de_callB B.bs.toBd (dc_len B.bs.toBd) (Bn.of B.bs T.n_len bt_len (by decide +kernel) (by decide +kernel)) (da_cons (de_var (Sl.of B.bs (i := 3) (x := "_law_word") (by decide +kernel))) (da_nil))) (da_nil)))))) (dss_nil)) (dss_one (ds_if (dt_cmp (dop_eq B.bs.toBd) (de_var (Sl.of B.bs (i := 1) (x := "_law_row") (by decide +kernel))) (de_slice B.bs.toBd (de_var (Sl.of B.bs (i := 3) (x := "_law_word") (by decide +kernel))) do_none (do_some (de_callB B.bs.toBd (dc_len B.bs.toBd) (Bn.of B.bs T.n_len bt_len (by decide +kernel) (by decide +kernel)) (da_cons (de_var (Sl.of B.bs (i := 1) (x := "_law_row") (by decide +kernel))) (da_nil))))) rfl) (dss_one (ds_ret (de_non))) (dss_nil))))) (dss_one (ds_ret (de_tup (da_cons (de_non) (da_cons (de_int) (da_nil))))))
abbrev n__law_settled : List Str := ["_law_table_here", "_law_left", "_law_right", "_law_mine", "_law_theirs"]
theorem sc__law_settled : FnScope n__law_settled ["_law_table_here", "_law_left", "_law_right"] (defScope st__law_settled) := ⟨rfl, rfl, rfl, by decide +kernel, rfl, by decide +kernel, by decide +kernel⟩
theorem der__law_settled {G : Gx} (T : Tx G.K G.mg) {s__law_begins : DSp} (F__law_begins : Fd G 1 2 T.f__law_begins s__law_begins) (X : Cx) (W : WX) (B : Bf G 1 n__law_settled (defScope st__law_settled) X W) : DSs G X W (defBody st__law_settled) (W__law_settled s__law_begins) :=
  dss_cons (ds_while B.bs.toBd (dt_cmp (dop_ne B.bs.toBd) (de_var (Sl.of B.bs (i := 1) (x := "_law_left") (by decide +kernel))) (de_tup (da_nil)) rfl) (dss_cons (ds_set (Sn.of B (i := 3) (x := "_law_mine") (by decide +kernel)) (de_call B.bs.toBd F__law_begins (by decide) (Gn.of B.bs T.m__law_begins (by decide +kernel)) (da_cons (de_var (Sl.of B.bs (i := 0) (x := "_law_table_here") (by decide +kernel))) (da_cons (de_var (Sl.of B.bs (i := 1) (x := "_law_left") (by decide +kernel))) (da_nil))))) (dss_cons (ds_set (Sn.of B (i := 4) (x := "_law_theirs") (by decide +kernel)) (de_call B.bs.toBd F__law_begins (by decide) (Gn.of B.bs T.m__law_begins (by decide +kernel)) (da_cons (de_var (Sl.of B.bs (i := 0) (x := "_law_table_here") (by decide +kernel))) (da_cons (de_var (Sl.of B.bs (i := 2) (x := "_law_right") (by decide +kernel))) (da_nil))))) (dss_cons (ds_if (dt_bool (dw_or (dt_cmp dop_isN (de_var (Sl.of B.bs (i := 3) (x := "_law_mine") (by decide +kernel))) (de_non) rfl) (dw_or1 (dt_cmp dop_isN (de_var (Sl.of B.bs (i := 4) (x := "_law_theirs") (by decide +kernel))) (de_non) rfl)))) (dss_one (ds_ret (de_tup (da_cons (de_var (Sl.of B.bs (i := 1) (x := "_law_left") (by decide +kernel))) (da_cons (de_var (Sl.of B.bs (i := 2) (x := "_law_right") (by decide +kernel))) (da_nil)))))) (dss_nil)) (dss_cons (ds_if (dt_cmp (dop_ne B.bs.toBd) (de_var (Sl.of B.bs (i := 3) (x := "_law_mine") (by decide +kernel))) (de_var (Sl.of B.bs (i := 4) (x := "_law_theirs") (by decide +kernel))) rfl) (dss_one (ds_ret (de_non))) (dss_nil)) (dss_cons (ds_set (Sn.of B (i := 1) (x := "_law_left") (by decide +kernel)) (de_slice B.bs.toBd (de_var (Sl.of B.bs (i := 1) (x := "_law_left") (by decide +kernel))) (do_some (de_ixA B.bs.toBd (de_var (Sl.of B.bs (i := 3) (x := "_law_mine") (by decide +kernel))) (de_int) (fun _ _ => rfl))) do_none)) (dss_one (ds_set (Sn.of B (i := 2) (x := "_law_right") (by decide +kernel)) (de_slice B.bs.toBd (de_var (Sl.of B.bs (i := 2) (x := "_law_right") (by decide +kernel))) (do_some (de_ixA B.bs.toBd (de_var (Sl.of B.bs (i := 3) (x := "_law_mine") (by decide +kernel))) (de_int) (fun _ _ => rfl))) do_none))))))))) (dss_one (ds_ret (de_tup (da_cons (de_tup (da_nil)) (da_cons (de_tup (da_nil)) (da_nil))))))
abbrev n__law_beside : List Str := ["_law_table_here", "_law_long", "_law_short", "_law_unlike", "_law_size", "_law_both"]
theorem sc__law_beside : FnScope n__law_beside ["_law_table_here", "_law_long", "_law_short", "_law_unlike"] (defScope st__law_beside) := ⟨rfl, rfl, rfl, by decide +kernel, rfl, by decide +kernel, by decide +kernel⟩
theorem der__law_beside {G : Gx} (T : Tx G.K G.mg) {s__law_settled : DSp} (F__law_settled : Fd G 2 3 T.f__law_settled s__law_settled) (X : Cx) (W : WX) (B : Bf G 2 n__law_beside (defScope st__law_beside) X W) : DSs G X W (defBody st__law_beside) (W__law_beside s__law_settled) :=
  dss_cons (ds_set (Sn.of B (i := 4) (x := "_law_size") (by decide +kernel)) (de_callB B.bs.toBd (dc_minA B.bs.toBd) (Bn.of B.bs T.n_min bt_min (by decide +kernel) (by decide +kernel)) (da_cons (de_callB B.bs.toBd (dc_len B.bs.toBd) (Bn.of B.bs T.n_len bt_len (by decide +kernel) (by decide +kernel)) (da_cons (de_ixA B.bs.toBd (de_var (Sl.of B.bs (i := 1) (x := "_law_long") (by decide +kernel))) (de_int) (fun _ _ => rfl)) (da_nil))) (da_cons (de_callB B.bs.toBd (dc_len B.bs.toBd) (Bn.of B.bs T.n_len bt_len (by decide +kernel) (by decide +kernel)) (da_cons (de_ixA B.bs.toBd (de_var (Sl.of B.bs (i := 2) (x := "_law_short") (by decide +kernel))) (de_int) (fun _ _ => rfl)) (da_nil))) (da_nil))))) (dss_cons (ds_set (Sn.of B (i := 5) (x := "_law_both") (by decide +kernel)) (de_call B.bs.toBd F__law_settled (by decide) (Gn.of B.bs T.m__law_settled (by decide +kernel)) (da_cons (de_var (Sl.of B.bs (i := 0) (x := "_law_table_here") (by decide +kernel))) (da_cons (de_bin (dop_add B.bs.toBd) (de_ixA B.bs.toBd (de_var (Sl.of B.bs (i := 1) (x := "_law_long") (by decide +kernel))) (de_int) (fun _ _ => rfl)) (de_slice B.bs.toBd (de_ixA B.bs.toBd (de_var (Sl.of B.bs (i := 1) (x := "_law_long") (by decide +kernel))) (de_int) (fun _ _ => rfl)) do_none (do_some (de_var (Sl.of B.bs (i := 4) (x := "_law_size") (by decide +kernel)))))) (da_cons (de_bin (dop_add B.bs.toBd) (de_ixA B.bs.toBd (de_var (Sl.of B.bs (i := 2) (x := "_law_short") (by decide +kernel))) (de_int) (fun _ _ => rfl)) (de_slice B.bs.toBd (de_ixA B.bs.toBd (de_var (Sl.of B.bs (i := 2) (x := "_law_short") (by decide +kernel))) (de_int) (fun _ _ => rfl)) do_none (do_some (de_var (Sl.of B.bs (i := 4) (x := "_law_size") (by decide +kernel)))))) (da_nil)))))) (dss_cons (ds_if (dt_cmp dop_isN (de_var (Sl.of B.bs (i := 5) (x := "_law_both") (by decide +kernel))) (de_non) rfl) (dss_one (ds_ret (de_non))) (dss_nil)) (dss_cons (ds_if (dt_cmp (dop_gtD B.bs.toBd) (de_callB B.bs.toBd (dc_len B.bs.toBd) (Bn.of B.bs T.n_len bt_len (by decide +kernel) (by decide +kernel)) (da_cons (de_ixA B.bs.toBd (de_var (Sl.of B.bs (i := 1) (x := "_law_long") (by decide +kernel))) (de_int) (fun _ _ => rfl)) (da_nil))) (de_var (Sl.of B.bs (i := 4) (x := "_law_size") (by decide +kernel))) rfl) (dss_one (ds_ret (de_tup (da_cons (de_slice B.bs.toBd (de_ixA B.bs.toBd (de_var (Sl.of B.bs (i := 1) (x := "_law_long") (by decide +kernel))) (de_int) (fun _ _ => rfl)) (do_some (de_var (Sl.of B.bs (i := 4) (x := "_law_size") (by decide +kernel)))) do_none) (da_cons (de_ixA B.bs.toBd (de_var (Sl.of B.bs (i := 5) (x := "_law_both") (by decide +kernel))) (de_int) (fun _ _ => rfl)) (da_cons (de_ixA B.bs.toBd (de_var (Sl.of B.bs (i := 5) (x := "_law_both") (by decide +kernel))) (de_int) (fun _ _ => rfl)) (da_cons (de_var (Sl.of B.bs (i := 3) (x := "_law_unlike") (by decide +kernel))) (da_nil)))))))) (dss_nil)) (dss_cons (ds_if (dt_cmp (dop_gtD B.bs.toBd) (de_callB B.bs.toBd (dc_len B.bs.toBd) (Bn.of B.bs T.n_len bt_len (by decide +kernel) (by decide +kernel)) (da_cons (de_ixA B.bs.toBd (de_var (Sl.of B.bs (i := 2) (x := "_law_short") (by decide +kernel))) (de_int) (fun _ _ => rfl)) (da_nil))) (de_var (Sl.of B.bs (i := 4) (x := "_law_size") (by decide +kernel))) rfl) (dss_one (ds_ret (de_tup (da_cons (de_slice B.bs.toBd (de_ixA B.bs.toBd (de_var (Sl.of B.bs (i := 2) (x := "_law_short") (by decide +kernel))) (de_int) (fun _ _ => rfl)) (do_some (de_var (Sl.of B.bs (i := 4) (x := "_law_size") (by decide +kernel)))) do_none) (da_cons (de_ixA B.bs.toBd (de_var (Sl.of B.bs (i := 5) (x := "_law_both") (by decide +kernel))) (de_int) (fun _ _ => rfl)) (da_cons (de_ixA B.bs.toBd (de_var (Sl.of B.bs (i := 5) (x := "_law_both") (by decide +kernel))) (de_int) (fun _ _ => rfl)) (da_cons (de_var (Sl.of B.bs (i := 3) (x := "_law_unlike") (by decide +kernel))) (da_nil)))))))) (dss_nil)) (dss_one (ds_ret (de_tup (da_cons (de_tup (da_nil)) (da_cons (de_callB B.bs.toBd (dc_minA B.bs.toBd) (Bn.of B.bs T.n_min bt_min (by decide +kernel) (by decide +kernel)) (da_cons (de_var (Sl.of B.bs (i := 5) (x := "_law_both") (by decide +kernel))) (da_nil))) (da_cons (de_callB B.bs.toBd (dc_maxA B.bs.toBd) (Bn.of B.bs T.n_max bt_max (by decide +kernel) (by decide +kernel)) (da_cons (de_var (Sl.of B.bs (i := 5) (x := "_law_both") (by decide +kernel))) (da_nil))) (da_cons (de_var (Sl.of B.bs (i := 3) (x := "_law_unlike") (by decide +kernel))) (da_nil))))))))))))
abbrev n__law_next : List Str := ["_law_one", "_law_other", "_law_state", "_law_rest", "_law_left", "_law_right", "_law_unlike", "_law_some", "_law_sign", "_law_word", "_law_more", "_law_longer", "_law_step"]
theorem sc__law_next : FnScope n__law_next ["_law_one", "_law_other", "_law_state"] (defScope st__law_next) := ⟨rfl, rfl, rfl, by decide +kernel, rfl, by decide +kernel, by decide +kernel⟩
theorem der__law_next {G : Gx} (T : Tx G.K G.mg) {s__law_beside : DSp} (F__law_beside : Fd G 3 4 T.f__law_beside s__law_beside) (X : Cx) (W : WX) (B : Bf G 3 n__law_next (defScope st__law_next) X W) : DSs G X W (defBody st__law_next) (W__law_next s__law_beside) :=
  dss_cons (ds_asg (de_var (Sl.of B.bs (i := 2) (x := "_law_state") (by decide +kernel))) (dg_tup B.bs.toBd (n := 4) (dgs_cons (dg_name (Sn.of B (i := 3) (x := "_law_rest") (by decide +kernel))) (dgs_cons (dg_name (Sn.of B (i := 4) (x := "_law_left") (by decide +kernel))) (dgs_cons (dg_name (Sn.of B (i := 5) (x := "_law_right") (by decide +kernel))) (dgs_cons (dg_name (Sn.of B (i := 6) (x := "_law_unlike") (by decide +kernel))) (dgs_nil))))) (gl_len (gl_cons gt_nm (gl_cons gt_nm (gl_cons gt_nm (gl_cons gt_nm (gl_nil)))))))) (dss_cons (ds_set (Sn.of B (i := 7) (x := "_law_some") (by decide +kernel)) (de_lstO (da_nil))) (dss_cons (ds_for B.bs.toBd (di_list B.bs.toBd (de_var (Sl.of B.bs (i := 0) (x := "_law_one") (by decide +kernel)))) (dg_tup B.bs.toBd (n := 2) (dgs_cons (dg_name (Sn.of B (i := 8) (x := "_law_sign") (by decide +kernel))) (dgs_cons (dg_name (Sn.of B (i := 9) (x := "_law_word") (by decide +kernel))) (dgs_nil))) (gl_len (gl_cons gt_nm (gl_cons gt_nm (gl_nil))))) (dss_one (ds_if (dt_not (dt_val (de_var (Sl.of B.bs (i := 6) (x := "_law_unlike") (by decide +kernel))))) (dss_one (ds_for B.bs.toBd (di_list B.bs.toBd (de_var (Sl.of B.bs (i := 0) (x := "_law_one") (by decide +kernel)))) (dg_tup B.bs.toBd (n := 2) (dgs_cons (dg_name (Sn.of B (i := 10) (x := "_law_more") (by decide +kernel))) (dgs_cons (dg_name (Sn.of B (i := 11) (x := "_law_longer") (by decide +kernel))) (dgs_nil))) (gl_len (gl_cons gt_nm (gl_cons gt_nm (gl_nil))))) (dss_one (ds_expr (de_bm B.bs.toBd PySem.F.slot_list_append PySem.F.type_list_append md_append (de_var (Sl.of B.bs (i := 7) (x := "_law_some") (by decide +kernel))) (da_cons (de_call B.bs.toBd F__law_beside (by decide) (Gn.of B.bs T.m__law_beside (by decide +kernel)) (da_cons (de_var (Sl.of B.bs (i := 1) (x := "_law_other") (by decide +kernel))) (da_cons (de_tup (da_cons (de_var (Sl.of B.bs (i := 9) (x := "_law_word") (by decide +kernel))) (da_cons (de_var (Sl.of B.bs (i := 4) (x := "_law_left") (by decide +kernel))) (da_nil)))) (da_cons (de_tup (da_cons (de_var (Sl.of B.bs (i := 11) (x := "_law_longer") (by decide +kernel))) (da_cons (de_var (Sl.of B.bs (i := 4) (x := "_law_left") (by decide +kernel))) (da_nil)))) (da_cons (de_cmp (dop_ne B.bs.toBd) (de_var (Sl.of B.bs (i := 10) (x := "_law_more") (by decide +kernel))) (de_var (Sl.of B.bs (i := 8) (x := "_law_sign") (by decide +kernel))) rfl) (da_nil)))))) (da_nil))))))) (dss_one (ds_if (dt_cmp (dop_eq B.bs.toBd) (de_var (Sl.of B.bs (i := 3) (x := "_law_rest") (by decide +kernel))) (de_tup (da_nil)) rfl) (dss_cons (ds_expr (de_bm B.bs.toBd PySem.F.slot_list_append PySem.F.type_list_append md_append (de_var (Sl.of B.bs (i := 7) (x := "_law_some") (by decide +kernel))) (da_cons (de_tup (da_cons (de_var (Sl.of B.bs (i := 9) (x := "_law_word") (by decide +kernel))) (da_cons (de_var (Sl.of B.bs (i := 4) (x := "_law_left") (by decide +kernel))) (da_cons (de_var (Sl.of B.bs (i := 5) (x := "_law_right") (by decide +kernel))) (da_cons (de_bl) (da_nil)))))) (da_nil)))) (dss_one (ds_expr (de_bm B.bs.toBd PySem.F.slot_list_append PySem.F.type_list_append md_append (de_var (Sl.of B.bs (i := 7) (x := "_law_some") (by decide +kernel))) (da_cons (de_tup (da_cons (de_var (Sl.of B.bs (i := 9) (x := "_law_word") (by decide +kernel))) (da_cons (de_var (Sl.of B.bs (i := 5) (x := "_law_right") (by decide +kernel))) (da_cons (de_var (Sl.of B.bs (i := 4) (x := "_law_left") (by decide +kernel))) (da_cons (de_bl) (da_nil)))))) (da_nil)))))) (dss_one (ds_expr (de_bm B.bs.toBd PySem.F.slot_list_append PySem.F.type_list_append md_append (de_var (Sl.of B.bs (i := 7) (x := "_law_some") (by decide +kernel))) (da_cons (de_call B.bs.toBd F__law_beside (by decide) (Gn.of B.bs T.m__law_beside (by decide +kernel)) (da_cons (de_var (Sl.of B.bs (i := 1) (x := "_law_other") (by decide +kernel))) (da_cons (de_tup (da_cons (de_var (Sl.of B.bs (i := 3) (x := "_law_rest") (by decide +kernel))) (da_cons (de_var (Sl.of B.bs (i := 4) (x := "_law_left") (by decide +kernel))) (da_nil)))) (da_cons (de_tup (da_cons (de_var (Sl.of B.bs (i := 9) (x := "_law_word") (by decide +kernel))) (da_cons (de_var (Sl.of B.bs (i := 5) (x := "_law_right") (by decide +kernel))) (da_nil)))) (da_cons (de_bl) (da_nil)))))) (da_nil)))))))))) (dss_one (ds_ret (de_fgt (de_lc B.bs.toBd (own := [("_law_step", 12)]) (own2 := [12]) (di_list B.bs.toBd (de_var (Sl.of B.bs (i := 7) (x := "_law_some") (by decide +kernel)))) (by rw [B.bs.eN, B.bs.esc]; decide +kernel) (by decide) (fun X1 B1_ h1 h2 => have B1 := Bs.blk B.bs B1_ h1 h2; dg_name (Sn.blk B1 (i := 12) (x := "_law_step") (by decide +kernel))) (fun X1 B1_ h1 h2 => have B1 := Bs.blk B.bs B1_ h1 h2; dts_one (dt_cmp dop_notN (de_var (Sl.of B1 (i := 12) (x := "_law_step") (by decide +kernel))) (de_non) rfl)) (fun X1 B1_ h1 h2 => have B1 := Bs.blk B.bs B1_ h1 h2; (de_var (Sl.of B1 (i := 12) (x := "_law_step") (by decide +kernel))))))))))
abbrev n__law_reached : List Str := ["_law_one", "_law_other", "_law_states", "_law_known", "_law_at", "_law_step"]
theorem sc__law_reached : FnScope n__law_reached ["_law_one", "_law_other"] (defScope st__law_reached) := ⟨rfl, rfl, rfl, by decide +kernel, rfl, by decide +kernel, by decide +kernel⟩
theorem der__law_reached {G : Gx} (T : Tx G.K G.mg) {s__law_next : DSp} (F__law_next : Fd G 4 3 T.f__law_next s__law_next) (X : Cx) (W : WX) (B : Bf G 4 n__law_reached (defScope st__law_reached) X W) : DSs G X W (defBody st__law_reached) (W__law_reached s__law_next) :=
  dss_cons (ds_set (Sn.of B (i := 2) (x := "_law_states") (by decide +kernel)) (de_lstO (da_cons (de_tup (da_cons (de_tup (da_nil)) (da_cons (de_tup (da_nil)) (da_cons (de_tup (da_nil)) (da_cons (de_bl) (da_nil)))))) (da_nil)))) (dss_cons (ds_set (Sn.of B (i := 3) (x := "_law_known") (by decide +kernel)) (de_dict1 B.bs.toBd (de_ixA B.bs.toBd (de_var (Sl.of B.bs (i := 2) (x := "_law_states") (by decide +kernel))) (de_int) (fun _ _ => rfl)) (de_bl))) (dss_cons (ds_set (Sn.of B (i := 4) (x := "_law_at") (by decide +kernel)) (de_int)) (dss_cons (ds_while B.bs.toBd (dt_cmp (dop_ltD B.bs.toBd) (de_var (Sl.of B.bs (i := 4) (x := "_law_at") (by decide +kernel))) (de_callB B.bs.toBd (dc_len B.bs.toBd) (Bn.of B.bs T.n_len bt_len (by decide +kernel) (by decide +kernel)) (da_cons (de_var (Sl.of B.bs (i := 2) (x := "_law_states") (by decide +kernel))) (da_nil))) rfl) (dss_cons (ds_for B.bs.toBd (di_list B.bs.toBd (de_call B.bs.toBd F__law_next (by decide) (Gn.of B.bs T.m__law_next (by decide +kernel)) (da_cons (de_var (Sl.of B.bs (i := 0) (x := "_law_one") (by decide +kernel))) (da_cons (de_var (Sl.of B.bs (i := 1) (x := "_law_other") (by decide +kernel))) (da_cons (de_ixA B.bs.toBd (de_var (Sl.of B.bs (i := 2) (x := "_law_states") (by decide +kernel))) (de_var (Sl.of B.bs (i := 4) (x := "_law_at") (by decide +kernel))) (fun _ _ => rfl)) (da_nil)))))) (dg_name (Sn.of B (i := 5) (x := "_law_step") (by decide +kernel))) (dss_one (ds_if (dt_cmp (dop_notIn B.bs.toBd) (de_var (Sl.of B.bs (i := 5) (x := "_law_step") (by decide +kernel))) (de_var (Sl.of B.bs (i := 3) (x := "_law_known") (by decide +kernel))) rfl) (dss_cons (ds_put B.bs.toBd (de_var (Sl.of B.bs (i := 3) (x := "_law_known") (by decide +kernel))) (de_var (Sl.of B.bs (i := 5) (x := "_law_step") (by decide +kernel))) (de_bl)) (dss_one (ds_expr (de_bm B.bs.toBd PySem.F.slot_list_append PySem.F.type_list_append md_append (de_var (Sl.of B.bs (i := 2) (x := "_law_states") (by decide +kernel))) (da_cons (de_var (Sl.of B.bs (i := 5) (x := "_law_step") (by decide +kernel))) (da_nil)))))) (dss_nil)))) (dss_one (ds_set (Sn.of B (i := 4) (x := "_law_at") (by decide +kernel)) (de_bin (dop_add B.bs.toBd) (de_var (Sl.of B.bs (i := 4) (x := "_law_at") (by decide +kernel))) (de_int)))))) (dss_one (ds_ret (de_fgt (de_callB B.bs.toBd (dc_sorted B.bs.toBd) (Bn.of B.bs T.n_sorted bt_sorted (by decide +kernel) (by decide +kernel)) (da_cons (de_var (Sl.of B.bs (i := 2) (x := "_law_states") (by decide +kernel))) (da_nil)))))))))
abbrev n_at_odds : List Str := ["one", "other", "size"]
theorem sc_at_odds : FnScope n_at_odds ["one", "other"] (defScope st_at_odds) := ⟨rfl, rfl, rfl, by decide +kernel, rfl, by decide +kernel, by decide +kernel⟩
theorem der_at_odds {G : Gx} (T : Tx G.K G.mg) (X : Cx) (W : WX) (B : Bf G 0 n_at_odds (defScope st_at_odds) X W) : DSs G X W (defBody st_at_odds) (W_at_odds) :=
  dss_cons (ds_if (dt_cmp (dop_eq B.bs.toBd) (de_ixA B.bs.toBd (de_var (Sl.of B.bs (i := 0) (x := "one") (by decide +kernel))) (de_int) (fun _ _ => rfl)) (de_ixA B.bs.toBd (de_var (Sl.of B.bs (i := 1) (x := "other") (by decide +kernel))) (de_int) (fun _ _ => rfl)) rfl) (dss_one (ds_ret (de_str))) (dss_nil)) (dss_cons (ds_set (Sn.of B (i := 2) (x := "size") (by decide +kernel)) (de_callB B.bs.toBd (dc_minA B.bs.toBd) (Bn.of B.bs T.n_min bt_min (by decide +kernel) (by decide +kernel)) (da_cons (de_callB B.bs.toBd (dc_len B.bs.toBd) (Bn.of B.bs T.n_len bt_len (by decide +kernel) (by decide +kernel)) (da_cons (de_ixA B.bs.toBd (de_var (Sl.of B.bs (i := 0) (x := "one") (by decide +kernel))) (de_int) (fun _ _ => rfl)) (da_nil))) (da_cons (de_callB B.bs.toBd (dc_len B.bs.toBd) (Bn.of B.bs T.n_len bt_len (by decide +kernel) (by decide +kernel)) (da_cons (de_ixA B.bs.toBd (de_var (Sl.of B.bs (i := 1) (x := "other") (by decide +kernel))) (de_int) (fun _ _ => rfl)) (da_nil))) (da_nil))))) (dss_cons (ds_if (dt_cmp (dop_eq B.bs.toBd) (de_slice B.bs.toBd (de_ixA B.bs.toBd (de_var (Sl.of B.bs (i := 0) (x := "one") (by decide +kernel))) (de_int) (fun _ _ => rfl)) do_none (do_some (de_var (Sl.of B.bs (i := 2) (x := "size") (by decide +kernel))))) (de_slice B.bs.toBd (de_ixA B.bs.toBd (de_var (Sl.of B.bs (i := 1) (x := "other") (by decide +kernel))) (de_int) (fun _ _ => rfl)) do_none (do_some (de_var (Sl.of B.bs (i := 2) (x := "size") (by decide +kernel))))) rfl) (dss_one (ds_ret (de_str))) (dss_nil)) (dss_one (ds_ret (de_non)))))
abbrev n_fault : List Str := ["table", "j", "i", "word"]
theorem sc_fault : FnScope n_fault ["table"] (defScope st_fault) := ⟨rfl, rfl, rfl, by decide +kernel, rfl, by decide +kernel, by decide +kernel⟩
theorem der_fault {G : Gx} (T : Tx G.K G.mg) {s_at_odds : DSp} (F_at_odds : Fd G 1 2 T.f_at_odds s_at_odds) (X : Cx) (W : WX) (B : Bf G 1 n_fault (defScope st_fault) X W) : DSs G X W (defBody st_fault) (W_fault s_at_odds) :=
  dss_cons (ds_for B.bs.toBd (di_range1 B.bs.toBd (Gl.of B.bs (by decide +kernel)) T.n_range (da_cons (de_callB B.bs.toBd (dc_len B.bs.toBd) (Bn.of B.bs T.n_len bt_len (by decide +kernel) (by decide +kernel)) (da_cons (de_var (Sl.of B.bs (i := 0) (x := "table") (by decide +kernel))) (da_nil))) (da_nil))) (dg_name (Sn.of B (i := 1) (x := "j") (by decide +kernel))) (dss_one (ds_for B.bs.toBd (di_range1 B.bs.toBd (Gl.of B.bs (by decide +kernel)) T.n_range (da_cons (de_var (Sl.of B.bs (i := 1) (x := "j") (by decide +kernel))) (da_nil))) (dg_name (Sn.of B (i := 2) (x := "i") (by decide +kernel))) (dss_cons (ds_set (Sn.of B (i := 3) (x := "word") (by decide +kernel)) (de_call B.bs.toBd F_at_odds (by decide) (Gn.of B.bs T.m_at_odds (by decide +kernel)) (da_cons (de_ixA B.bs.toBd (de_var (Sl.of B.bs (i := 0) (x := "table") (by decide +kernel))) (de_var (Sl.of B.bs (i := 2) (x := "i") (by decide +kernel))) (fun _ _ => rfl)) (da_cons (de_ixA B.bs.toBd (de_var (Sl.of B.bs (i := 0) (x := "table") (by decide +kernel))) (de_var (Sl.of B.bs (i := 1) (x := "j") (by decide +kernel))) (fun _ _ => rfl)) (da_nil))))) (dss_one (ds_if (dt_cmp dop_notN (de_var (Sl.of B.bs (i := 3) (x := "word") (by decide +kernel))) (de_non) rfl) (dss_one (ds_ret (de_tup (da_cons (de_var (Sl.of B.bs (i := 3) (x := "word") (by decide +kernel))) (da_cons (de_var (Sl.of B.bs (i := 2) (x := "i") (by decide +kernel))) (da_cons (de_var (Sl.of B.bs (i := 1) (x := "j") (by decide +kernel))) (da_nil))))))) (dss_nil))))))) (dss_one (ds_ret (de_non)))
abbrev n_Code_init : List Str := ["self", "table", "found", "sign", "word"]
theorem sc_Code_init : FnScope n_Code_init ["self", "table"] (defScope st_Code_init) := ⟨rfl, rfl, rfl, by decide +kernel, rfl, by decide +kernel, by decide +kernel⟩
theorem der_Code_init {G : Gx} (T : Tx G.K G.mg) {s_fault : DSp} (F_fault : Fd G 2 1 T.f_fault s_fault) (X : Cx) (W : WX) (B : Bf G 2 n_Code_init (defScope st_Code_init) X W) : DSs G X W (defBody st_Code_init) (W_Code_init T.C_Code T.f_by_word s_fault) :=
  dss_cons (ds_set (Sn.of B (i := 2) (x := "found") (by decide +kernel)) (de_call B.bs.toBd F_fault (by decide) (Gn.of B.bs T.m_fault (by decide +kernel)) (da_cons (de_var (Sl.of B.bs (i := 1) (x := "table") (by decide +kernel))) (da_nil)))) (dss_cons (ds_if (dt_bool (dw_and (dt_cmp dop_notN (de_var (Sl.of B.bs (i := 2) (x := "found") (by decide +kernel))) (de_non) rfl) (dw_and1 (dt_cmp (dop_eq B.bs.toBd) (de_ixA B.bs.toBd (de_var (Sl.of B.bs (i := 2) (x := "found") (by decide +kernel))) (de_int) (fun _ _ => rfl)) (de_str) rfl)))) (dss_one (ds_never)) (dss_nil)) (dss_cons (ds_if (dt_cmp dop_notN (de_var (Sl.of B.bs (i := 2) (x := "found") (by decide +kernel))) (de_non) rfl) (dss_one (ds_never)) (dss_nil)) (dss_cons (ds_fld B.bs.toBd T.cl_Code T.na_Code_pairs (de_var (Sl.of B.bs (i := 0) (x := "self") (by decide +kernel))) (de_callBK B.bs.toBd (dc_sortBy B.bs.toBd T.kx_by_word) (Bn.of B.bs T.n_sorted bt_sorted (by decide +kernel) (by decide +kernel)) (da_cons (de_var (Sl.of B.bs (i := 1) (x := "table") (by decide +kernel))) (da_nil)) (dkw_cons (de_glob B.bs.toBd (Gn.of B.bs T.m_by_word (by decide +kernel)) (show RelV (.ref T.f_by_word) (.ref T.f_by_word) from rfl) (fun _ => .ptr _)) (dkw_nil)))) (dss_cons (ds_fld B.bs.toBd T.cl_Code T.na_Code_words (de_var (Sl.of B.bs (i := 0) (x := "self") (by decide +kernel))) (de_dict0 B.bs.toBd false)) (dss_cons (ds_fld B.bs.toBd T.cl_Code T.na_Code_readings (de_var (Sl.of B.bs (i := 0) (x := "self") (by decide +kernel))) (de_dict0 B.bs.toBd true)) (dss_cons (ds_for B.bs.toBd (di_list B.bs.toBd (de_fld B.bs.toBd T.cl_Code T.na_Code_pairs (de_var (Sl.of B.bs (i := 0) (x := "self") (by decide +kernel))))) (dg_tup B.bs.toBd (n := 2) (dgs_cons (dg_name (Sn.of B (i := 3) (x := "sign") (by decide +kernel))) (dgs_cons (dg_name (Sn.of B (i := 4) (x := "word") (by decide +kernel))) (dgs_nil))) (gl_len (gl_cons gt_nm (gl_cons gt_nm (gl_nil))))) (dss_cons (ds_put B.bs.toBd (de_fld B.bs.toBd T.cl_Code T.na_Code_words (de_var (Sl.of B.bs (i := 0) (x := "self") (by decide +kernel)))) (de_var (Sl.of B.bs (i := 3) (x := "sign") (by decide +kernel))) (de_var (Sl.of B.bs (i := 4) (x := "word") (by decide +kernel)))) (dss_one (ds_put B.bs.toBd (de_fld B.bs.toBd T.cl_Code T.na_Code_readings (de_var (Sl.of B.bs (i := 0) (x := "self") (by decide +kernel)))) (de_var (Sl.of B.bs (i := 4) (x := "word") (by decide +kernel))) (de_var (Sl.of B.bs (i := 3) (x := "sign") (by decide +kernel))))))) (dss_lockF (i := 0) (f := "readings") (dss_lockF (i := 0) (f := "words") (dss_nil)))))))))
abbrev n__law_table : List Str := ["_law_hand", "_law_words_here", "_law_signs_here", "_law_at", "_law_spun", "_law_pairs", "_law_k"]
theorem sc__law_table : FnScope n__law_table ["_law_hand", "_law_words_here", "_law_signs_here"] (defScope st__law_table) := ⟨rfl, rfl, rfl, by decide +kernel, rfl, by decide +kernel, by decide +kernel⟩
theorem der__law_table {G : Gx} (T : Tx G.K G.mg) {s__law_draw : DSp} (F__law_draw : Fd G 1 2 T.f__law_draw s__law_draw) (X : Cx) (W : WX) (B : Bf G 1 n__law_table (defScope st__law_table) X W) : DSs G X W (defBody st__law_table) (W__law_table s__law_draw) :=
  dss_cons (ds_set (Sn.of B (i := 3) (x := "_law_at") (by decide +kernel)) (de_bin dop_mod (de_call B.bs.toBd F__law_draw (by decide) (Gn.of B.bs T.m__law_draw (by decide +kernel)) (da_cons (de_var (Sl.of B.bs (i := 0) (x := "_law_hand") (by decide +kernel))) (da_cons (de_int) (da_nil)))) (de_callB B.bs.toBd (dc_maxA B.bs.toBd) (Bn.of B.bs T.n_max bt_max (by decide +kernel) (by decide +kernel)) (da_cons (de_int) (da_cons (de_callB B.bs.toBd (dc_len B.bs.toBd) (Bn.of B.bs T.n_len bt_len (by decide +kernel) (by decide +kernel)) (da_cons (de_var (Sl.of B.bs (i := 2) (x := "_law_signs_here") (by decide +kernel))) (da_nil))) (da_nil)))))) (dss_cons (ds_set (Sn.of B (i := 4) (x := "_law_spun") (by decide +kernel)) (de_bin (dop_add B.bs.toBd) (de_slice B.bs.toBd (de_var (Sl.of B.bs (i := 2) (x := "_law_signs_here") (by decide +kernel))) (do_some (de_var (Sl.of B.bs (i := 3) (x := "_law_at") (by decide +kernel)))) do_none) (de_slice B.bs.toBd (de_var (Sl.of B.bs (i := 2) (x := "_law_signs_here") (by decide +kernel))) do_none (do_some (de_var (Sl.of B.bs (i := 3) (x := "_law_at") (by decide +kernel))))))) (dss_cons (ds_setLc B.bs.toBd (B.bs.ix rfl) (B.bs.loc (by decide +kernel)) (sw_true (by rw [B.esc]; rfl) (B.bs.loc (by decide +kernel)) rfl (by decide +kernel)) (own := [("_law_k", 6)]) (own2 := [6]) (di_range1 B.bs.toBd (Gl.of B.bs (by decide +kernel)) T.n_range (da_cons (de_callB B.bs.toBd (dc_len B.bs.toBd) (Bn.of B.bs T.n_len bt_len (by decide +kernel) (by decide +kernel)) (da_cons (de_var (Sl.of B.bs (i := 1) (x := "_law_words_here") (by decide +kernel))) (da_nil))) (da_nil))) (by rw [B.bs.eN, B.bs.esc]; decide +kernel) (by decide) (fun X1 B1_ h1 h2 => have B1 := Bs.blk B.bs B1_ h1 h2; dg_name (Sn.blk B1 (i := 6) (x := "_law_k") (by decide +kernel))) (fun X1 B1_ h1 h2 => have B1 := Bs.blk B.bs B1_ h1 h2; dts_nil) (fun X1 B1_ h1 h2 => have B1 := Bs.blk B.bs B1_ h1 h2; (de_tup (da_cons (de_ixA B1.toBd (de_var (Sl.of B1 (i := 4) (x := "_law_spun") (by decide +kernel))) (de_var (Sl.of B1 (i := 6) (x := "_law_k") (by decide +kernel))) (fun _ _ => rfl)) (da_cons (de_ixA B1.toBd (de_var (Sl.of B1 (i := 1) (x := "_law_words_here") (by decide +kernel))) (de_var (Sl.of B1 (i := 6) (x := "_law_k") (by decide +kernel))) (fun _ _ => rfl)) (da_nil)))))) (dss_cons (ds_if (dt_cmp (dop_eq B.bs.toBd) (de_call B.bs.toBd F__law_draw (by decide) (Gn.of B.bs T.m__law_draw (by decide +kernel)) (da_cons (de_var (Sl.of B.bs (i := 0) (x := "_law_hand") (by decide +kernel))) (da_cons (de_int) (da_nil)))) (de_int) rfl) (dss_one (ds_ret (de_rev B.bs.toBd (de_var (Sl.of B.bs (i := 5) (x := "_law_pairs") (by decide +kernel)))))) (dss_nil)) (dss_one (ds_ret (de_var (Sl.of B.bs (i := 5) (x := "_law_pairs") (by decide +kernel))))))))
abbrev n__law_signs : List Str := ["_law_hand", "_law_many", "_law_begin", "_law_step", "_law_signs_here", "_law_at", "_law_k"]
theorem sc__law_signs : FnScope n__law_signs ["_law_hand", "_law_many"] (defScope st__law_signs) := ⟨rfl, rfl, rfl, by decide +kernel, rfl, by decide +kernel, by decide +kernel⟩
theorem der__law_signs {G : Gx} (T : Tx G.K G.mg) {s__law_draw : DSp} (F__law_draw : Fd G 1 2 T.f__law_draw s__law_draw) (X : Cx) (W : WX) (B : Bf G 1 n__law_signs (defScope st__law_signs) X W) : DSs G X W (defBody st__law_signs) (W__law_signs s__law_draw) :=
  dss_cons (ds_set (Sn.of B (i := 2) (x := "_law_begin") (by decide +kernel)) (de_bin dop_mul (de_callTy B.bs.toBd dc_int (Bn.of B.bs T.n_int bt_int (by decide +kernel) (by decide +kernel)) (da_cons (de_cmp (dop_gtD B.bs.toBd) (de_call B.bs.toBd F__law_draw (by decide) (Gn.of B.bs T.m__law_draw (by decide +kernel)) (da_cons (de_var (Sl.of B.bs (i := 0) (x := "_law_hand") (by decide +kernel))) (da_cons (de_int) (da_nil)))) (de_int) rfl) (da_nil))) (de_bin (dop_add B.bs.toBd) (de_bin dop_mul (de_call B.bs.toBd F__law_draw (by decide) (Gn.of B.bs T.m__law_draw (by decide +kernel)) (da_cons (de_var (Sl.of B.bs (i := 0) (x := "_law_hand") (by decide +kernel))) (da_cons (de_int) (da_nil)))) (de_bin dop_pow (de_int) (de_int))) (de_call B.bs.toBd F__law_draw (by decide) (Gn.of B.bs T.m__law_draw (by decide +kernel)) (da_cons (de_var (Sl.of B.bs (i := 0) (x := "_law_hand") (by decide +kernel))) (da_cons (de_int) (da_nil))))))) (dss_cons (ds_set (Sn.of B (i := 3) (x := "_law_step") (by decide +kernel)) (de_bin (dop_add B.bs.toBd) (de_int) (de_ixA B.bs.toBd (de_lst (da_cons (de_int) (da_cons (de_call B.bs.toBd F__law_draw (by decide) (Gn.of B.bs T.m__law_draw (by decide +kernel)) (da_cons (de_var (Sl.of B.bs (i := 0) (x := "_law_hand") (by decide +kernel))) (da_cons (de_int) (da_nil)))) (da_cons (de_call B.bs.toBd F__law_draw (by decide) (Gn.of B.bs T.m__law_draw (by decide +kernel)) (da_cons (de_var (Sl.of B.bs (i := 0) (x := "_law_hand") (by decide +kernel))) (da_cons (de_bin dop_pow (de_int) (de_int)) (da_nil)))) (da_nil))))) (de_call B.bs.toBd F__law_draw (by decide) (Gn.of B.bs T.m__law_draw (by decide +kernel)) (da_cons (de_var (Sl.of B.bs (i := 0) (x := "_law_hand") (by decide +kernel))) (da_cons (de_int) (da_nil)))) (fun _ _ => rfl)))) (dss_cons (ds_setLc B.bs.toBd (B.bs.ix rfl) (B.bs.loc (by decide +kernel)) (sw_true (by rw [B.esc]; rfl) (B.bs.loc (by decide +kernel)) rfl (by decide +kernel)) (own := [("_law_k", 6)]) (own2 := [6]) (di_range1 B.bs.toBd (Gl.of B.bs (by decide +kernel)) T.n_range (da_cons (de_var (Sl.of B.bs (i := 1) (x := "_law_many") (by decide +kernel))) (da_nil))) (by rw [B.bs.eN, B.bs.esc]; decide +kernel) (by decide) (fun X1 B1_ h1 h2 => have B1 := Bs.blk B.bs B1_ h1 h2; dg_name (Sn.blk B1 (i := 6) (x := "_law_k") (by decide +kernel))) (fun X1 B1_ h1 h2 => have B1 := Bs.blk B.bs B1_ h1 h2; dts_nil) (fun X1 B1_ h1 h2 => have B1 := Bs.blk B.bs B1_ h1 h2; (de_bin (dop_add B1.toBd) (de_var (Sl.of B1 (i := 2) (x := "_law_begin") (by decide +kernel))) (de_bin dop_mul (de_var (Sl.of B1 (i := 3) (x := "_law_step") (by decide +kernel))) (de_var (Sl.of B1 (i := 6) (x := "_law_k") (by decide +kernel))))))) (dss_cons (ds_set (Sn.of B (i := 5) (x := "_law_at") (by decide +kernel)) (de_bin dop_mod (de_call B.bs.toBd F__law_draw (by decide) (Gn.of B.bs T.m__law_draw (by decide +kernel)) (da_cons (de_var (Sl.of B.bs (i := 0) (x := "_law_hand") (by decide +kernel))) (da_cons (de_int) (da_nil)))) (de_callB B.bs.toBd (dc_maxA B.bs.toBd) (Bn.of B.bs T.n_max bt_max (by decide +kernel) (by decide +kernel)) (da_cons (de_int) (da_cons (de_var (Sl.of B.bs (i := 1) (x := "_law_many") (by decide +kernel))) (da_nil)))))) (dss_cons (ds_set (Sn.of B (i := 4) (x := "_law_signs_here") (by decide +kernel)) (de_bin (dop_add B.bs.toBd) (de_slice B.bs.toBd (de_var (Sl.of B.bs (i := 4) (x := "_law_signs_here") (by decide +kernel))) (do_some (de_var (Sl.of B.bs (i := 5) (x := "_law_at") (by decide +kernel)))) do_none) (de_slice B.bs.toBd (de_var (Sl.of B.bs (i := 4) (x := "_law_signs_here") (by decide +kernel))) do_none (do_some (de_var (Sl.of B.bs (i := 5) (x := "_law_at") (by decide +kernel))))))) (dss_cons (ds_if (dt_cmp (dop_eq B.bs.toBd) (de_call B.bs.toBd F__law_draw (by decide) (Gn.of B.bs T.m__law_draw (by decide +kernel)) (da_cons (de_var (Sl.of B.bs (i := 0) (x := "_law_hand") (by decide +kernel))) (da_cons (de_int) (da_nil)))) (de_int) rfl) (dss_one (ds_ret (de_rev B.bs.toBd (de_var (Sl.of B.bs (i := 4) (x := "_law_signs_here") (by decide +kernel)))))) (dss_nil)) (dss_one (ds_ret (de_var (Sl.of B.bs (i := 4) (x := "_law_signs_here") (by decide +kernel))))))))))
abbrev n__law_words : List Str := ["_law_hand", "_law_some", "_law_most", "_law_longest", "_law_words_here", "_law_k", "_law_at", "_law_one", "_law_word"]
theorem sc__law_words : FnScope n__law_words ["_law_hand", "_law_some", "_law_most", "_law_longest"] (defScope st__law_words) := ⟨rfl, rfl, rfl, by decide +kernel, rfl, by decide +kernel, by decide +kernel⟩
theorem der__law_words {G : Gx} (T : Tx G.K G.mg) {s__law_draw : DSp} (F__law_draw : Fd G 1 2 T.f__law_draw s__law_draw) (X : Cx) (W : WX) (B : Bf G 1 n__law_words (defScope st__law_words) X W) : DSs G X W (defBody st__law_words) (W__law_words s__law_draw) :=
  dss_cons (ds_set (Sn.of B (i := 4) (x := "_law_words_here") (by decide +kernel)) (de_lc B.bs.toBd (own := [("_law_one", 7)]) (own2 := [7]) (di_list B.bs.toBd (de_var (Sl.of B.bs (i := 1) (x := "_law_some") (by decide +kernel)))) (by rw [B.bs.eN, B.bs.esc]; decide +kernel) (by decide) (fun X3 B3_ h1 h2 => have B3 := Bs.blk B.bs B3_ h1 h2; dg_name (Sn.blk B3 (i := 7) (x := "_law_one") (by decide +kernel))) (fun X3 B3_ h1 h2 => have B3 := Bs.blk B.bs B3_ h1 h2; dts_nil) (fun X3 B3_ h1 h2 => have B3 := Bs.blk B.bs B3_ h1 h2; (de_tup (da_cons (de_var (Sl.of B3 (i := 7) (x := "_law_one") (by decide +kernel))) (da_nil))))) (sw_cell (by rw [B.bs.esc]; rfl))) (dss_cons (ds_for B.bs.toBd (di_range1 B.bs.toBd (Gl.of B.bs (by decide +kernel)) T.n_range (da_cons (de_call B.bs.toBd F__law_draw (by decide) (Gn.of B.bs T.m__law_draw (by decide +kernel)) (da_cons (de_var (Sl.of B.bs (i := 0) (x := "_law_hand") (by decide +kernel))) (da_cons (de_bin (dop_add B.bs.toBd) (de_var (Sl.of B.bs (i := 2) (x := "_law_most") (by decide +kernel))) (de_int)) (da_nil)))) (da_nil))) (dg_name (Sn.of B (i := 5) (x := "_law_k") (by decide +kernel))) (dss_cons (ds_set (Sn.of B (i := 6) (x := "_law_at") (by decide +kernel)) (de_bin dop_mod (de_call B.bs.toBd F__law_draw (by decide) (Gn.of B.bs T.m__law_draw (by decide +kernel)) (da_cons (de_var (Sl.of B.bs (i := 0) (x := "_law_hand") (by decide +kernel))) (da_cons (de_int) (da_nil)))) (de_callB B.bs.toBd (dc_len B.bs.toBd) (Bn.of B.bs T.n_len bt_len (by decide +kernel) (by decide +kernel)) (da_cons (de_var (Sl.of B.bs (i := 4) (x := "_law_words_here") (by decide +kernel))) (da_nil))))) (dss_one (ds_if (dt_cmp (dop_ltD B.bs.toBd) (de_callB B.bs.toBd (dc_len B.bs.toBd) (Bn.of B.bs T.n_len bt_len (by decide +kernel) (by decide +kernel)) (da_cons (de_ixA B.bs.toBd (de_var (Sl.of B.bs (i := 4) (x := "_law_words_here") (by decide +kernel))) (de_var (Sl.of B.bs (i := 6) (x := "_law_at") (by decide +kernel))) (fun _ _ => rfl)) (da_nil))) (de_var (Sl.of B.bs (i := 3) (x := "_law_longest") (by decide +kernel))) rfl) (dss_one (ds_set (Sn.of B (i := 4) (x := "_law_words_here") (by decide +kernel)) (de_bin (dop_add B.bs.toBd) (de_bin (dop_add B.bs.toBd) (de_slice B.bs.toBd (de_var (Sl.of B.bs (i := 4) (x := "_law_words_here") (by decide +kernel))) do_none (do_some (de_var (Sl.of B.bs (i := 6) (x := "_law_at") (by decide +kernel))))) (de_lc B.bs.toBd (own := [("_law_one", 7)]) (own2 := [7]) (di_list B.bs.toBd (de_var (Sl.of B.bs (i := 1) (x := "_law_some") (by decide +kernel)))) (by rw [B.bs.eN, B.bs.esc]; decide +kernel) (by decide) (fun X2 B2_ h1 h2 => have B2 := Bs.blk B.bs B2_ h1 h2; dg_name (Sn.blk B2 (i := 7) (x := "_law_one") (by decide +kernel))) (fun X2 B2_ h1 h2 => have B2 := Bs.blk B.bs B2_ h1 h2; dts_nil) (fun X2 B2_ h1 h2 => have B2 := Bs.blk B.bs B2_ h1 h2; (de_bin (dop_add B2.toBd) (de_ixA B2.toBd (de_var (Sl.of B2 (i := 4) (x := "_law_words_here") (by decide +kernel))) (de_var (Sl.of B2 (i := 6) (x := "_law_at") (by decide +kernel))) (fun _ _ => rfl)) (de_tup (da_cons (de_var (Sl.of B2 (i := 7) (x := "_law_one") (by decide +kernel))) (da_nil))))))) (de_slice B.bs.toBd (de_var (Sl.of B.bs (i := 4) (x := "_law_words_here") (by decide +kernel))) (do_some (de_bin (dop_add B.bs.toBd) (de_var (Sl.of B.bs (i := 6) (x := "_law_at") (by decide +kernel))) (de_int))) do_none)))) (dss_nil))))) (dss_one (ds_ret (de_lc B.bs.toBd (own := [("_law_word", 8)]) (own2 := [8]) (di_list B.bs.toBd (de_var (Sl.of B.bs (i := 4) (x := "_law_words_here") (by decide +kernel)))) (by rw [B.bs.eN, B.bs.esc]; decide +kernel) (by decide) (fun X1 B1_ h1 h2 => have B1 := Bs.blk B.bs B1_ h1 h2; dg_name (Sn.blk B1 (i := 8) (x := "_law_word") (by decide +kernel))) (fun X1 B1_ h1 h2 => have B1 := Bs.blk B.bs B1_ h1 h2; dts_one (dt_cmp (dop_gtD B1.toBd) (de_call B1.toBd F__law_draw (by decide) (Gn.of B1 T.m__law_draw (by decide +kernel)) (da_cons (de_var (Sl.of B1 (i := 0) (x := "_law_hand") (by decide +kernel))) (da_cons (de_int) (da_nil)))) (de_int) rfl)) (fun X1 B1_ h1 h2 => have B1 := Bs.blk B.bs B1_ h1 h2; (de_var (Sl.of B1 (i := 8) (x := "_law_word") (by decide +kernel))))))))
abbrev n__law_bytes : List Str := ["_law_hand", "_law_most", "_law_begin", "_law_step", "_law_k"]
theorem sc__law_bytes : FnScope n__law_bytes ["_law_hand", "_law_most"] (defScope st__law_bytes) := ⟨rfl, rfl, rfl, by decide +kernel, rfl, by decide +kernel, by decide +kernel⟩
theorem der__law_bytes {G : Gx} (T : Tx G.K G.mg) {s__law_draw : DSp} (F__law_draw : Fd G 1 2 T.f__law_draw s__law_draw) (X : Cx) (W : WX) (B : Bf G 1 n__law_bytes (defScope st__law_bytes) X W) : DSs G X W (defBody st__law_bytes) (W__law_bytes s__law_draw) :=
  dss_cons (ds_set (Sn.of B (i := 2) (x := "_law_begin") (by decide +kernel)) (de_call B.bs.toBd F__law_draw (by decide) (Gn.of B.bs T.m__law_draw (by decide +kernel)) (da_cons (de_var (Sl.of B.bs (i := 0) (x := "_law_hand") (by decide +kernel))) (da_cons (de_int) (da_nil))))) (dss_cons (ds_set (Sn.of B (i := 3) (x := "_law_step") (by decide +kernel)) (de_bin (dop_add B.bs.toBd) (de_int) (de_call B.bs.toBd F__law_draw (by decide) (Gn.of B.bs T.m__law_draw (by decide +kernel)) (da_cons (de_var (Sl.of B.bs (i := 0) (x := "_law_hand") (by decide +kernel))) (da_cons (de_int) (da_nil)))))) (dss_one (ds_ret (de_lc B.bs.toBd (own := [("_law_k", 4)]) (own2 := [4]) (di_range1 B.bs.toBd (Gl.of B.bs (by decide +kernel)) T.n_range (da_cons (de_bin (dop_add B.bs.toBd) (de_int) (de_call B.bs.toBd F__law_draw (by decide) (Gn.of B.bs T.m__law_draw (by decide +kernel)) (da_cons (de_var (Sl.of B.bs (i := 0) (x := "_law_hand") (by decide +kernel))) (da_cons (de_bin dop_sub (de_var (Sl.of B.bs (i := 1) (x := "_law_most") (by decide +kernel))) (de_int)) (da_nil))))) (da_nil))) (by rw [B.bs.eN, B.bs.esc]; decide +kernel) (by decide) (fun X1 B1_ h1 h2 => have B1 := Bs.blk B.bs B1_ h1 h2; dg_name (Sn.blk B1 (i := 4) (x := "_law_k") (by decide +kernel))) (fun X1 B1_ h1 h2 => have B1 := Bs.blk B.bs B1_ h1 h2; dts_nil) (fun X1 B1_ h1 h2 => have B1 := Bs.blk B.bs B1_ h1 h2; (de_bin dop_mod (de_bin (dop_add B1.toBd) (de_var (Sl.of B1 (i := 2) (x := "_law_begin") (by decide +kernel))) (de_bin dop_mul (de_var (Sl.of B1 (i := 3) (x := "_law_step") (by decide +kernel))) (de_var (Sl.of B1 (i := 4) (x := "_law_k") (by decide +kernel))))) (de_int)))))))
abbrev n__law_two : List Str := ["_law_hand", "_law_some", "_law_longest", "_law_words_here", "_law_others", "_law_way", "_law_at", "_law_signs_here", "_law_first", "_law_one"]
theorem sc__law_two : FnScope n__law_two ["_law_hand"] (defScope st__law_two) := ⟨rfl, rfl, rfl, by decide +kernel, rfl, by decide +kernel, by decide +kernel⟩
theorem der__law_two {G : Gx} (T : Tx G.K G.mg) {s__law_table : DSp} (F__law_table : Fd G 2 3 T.f__law_table s__law_table) {s__law_signs : DSp} (F__law_signs : Fd G 2 2 T.f__law_signs s__law_signs) {s__law_draw : DSp} (F__law_draw : Fd G 1 2 T.f__law_draw s__law_draw) {s__law_words : DSp} (F__law_words : Fd G 2 4 T.f__law_words s__law_words) {s__law_bytes : DSp} (F__law_bytes : Fd G 2 2 T.f__law_bytes s__law_bytes) (X : Cx) (W : WX) (B : Bf G 2 n__law_two (defScope st__law_two) X W) : DSs G X W (defBody st__law_two) (W__law_two s__law_table s__law_signs s__law_draw s__law_words s__law_bytes) :=
  dss_cons (ds_set (Sn.of B (i := 1) (x := "_law_some") (by decide +kernel)) (de_call B.bs.toBd F__law_bytes (by decide) (Gn.of B.bs T.m__law_bytes (by decide +kernel)) (da_cons (de_var (Sl.of B.bs (i := 0) (x := "_law_hand") (by decide +kernel))) (da_cons (de_ixA B.bs.toBd (de_lst (da_cons (de_int) (da_cons (de_int) (da_nil)))) (de_callTy B.bs.toBd dc_int (Bn.of B.bs T.n_int bt_int (by decide +kernel) (by decide +kernel)) (da_cons (de_cmp (dop_eq B.bs.toBd) (de_call B.bs.toBd F__law_draw (by decide) (Gn.of B.bs T.m__law_draw (by decide +kernel)) (da_cons (de_var (Sl.of B.bs (i := 0) (x := "_law_hand") (by decide +kernel))) (da_cons (de_int) (da_nil)))) (de_int) rfl) (da_nil))) (fun _ _ => rfl)) (da_nil))))) (dss_cons (ds_set (Sn.of B (i := 2) (x := "_law_longest") (by decide +kernel)) (de_bin (dop_add B.bs.toBd) (de_callB B.bs.toBd (dc_maxA B.bs.toBd) (Bn.of B.bs T.n_max bt_max (by decide +kernel) (by decide +kernel)) (da_cons (de_int) (da_cons (de_bin dop_sub (de_int) (de_callB B.bs.toBd (dc_len B.bs.toBd) (Bn.of B.bs T.n_len bt_len (by decide +kernel) (by decide +kernel)) (da_cons (de_var (Sl.of B.bs (i := 1) (x := "_law_some") (by decide +kernel))) (da_nil)))) (da_nil)))) (de_callTy B.bs.toBd dc_int (Bn.of B.bs T.n_int bt_int (by decide +kernel) (by decide +kernel)) (da_cons (de_and (de_cmp (dop_eq B.bs.toBd) (de_callB B.bs.toBd (dc_len B.bs.toBd) (Bn.of B.bs T.n_len bt_len (by decide +kernel) (by decide +kernel)) (da_cons (de_var (Sl.of B.bs (i := 1) (x := "_law_some") (by decide +kernel))) (da_nil))) (de_int) rfl) (de_one (de_cmp (dop_eq B.bs.toBd) (de_call B.bs.toBd F__law_draw (by decide) (Gn.of B.bs T.m__law_draw (by decide +kernel)) (da_cons (de_var (Sl.of B.bs (i := 0) (x := "_law_hand") (by decide +kernel))) (da_cons (de_int) (da_nil)))) (de_int) rfl))) (da_nil))))) (dss_cons (ds_set (Sn.of B (i := 3) (x := "_law_words_here") (by decide +kernel)) (de_slice B.bs.toBd (de_call B.bs.toBd F__law_words (by decide) (Gn.of B.bs T.m__law_words (by decide +kernel)) (da_cons (de_var (Sl.of B.bs (i := 0) (x := "_law_hand") (by decide +kernel))) (da_cons (de_var (Sl.of B.bs (i := 1) (x := "_law_some") (by decide +kernel))) (da_cons (de_int) (da_cons (de_var (Sl.of B.bs (i := 2) (x := "_law_longest") (by decide +kernel))) (da_nil)))))) do_none (do_some (de_ixA B.bs.toBd (de_lst (da_cons (de_int) (da_cons (de_int) (da_nil)))) (de_callTy B.bs.toBd dc_int (Bn.of B.bs T.n_int bt_int (by decide +kernel) (by decide +kernel)) (da_cons (de_cmp (dop_gtD B.bs.toBd) (de_callB B.bs.toBd (dc_len B.bs.toBd) (Bn.of B.bs T.n_len bt_len (by decide +kernel) (by decide +kernel)) (da_cons (de_var (Sl.of B.bs (i := 1) (x := "_law_some") (by decide +kernel))) (da_nil))) (de_int) rfl) (da_nil))) (fun _ _ => rfl))))) (dss_cons (ds_set (Sn.of B (i := 4) (x := "_law_others") (by decide +kernel)) (de_slice B.bs.toBd (de_call B.bs.toBd F__law_words (by decide) (Gn.of B.bs T.m__law_words (by decide +kernel)) (da_cons (de_var (Sl.of B.bs (i := 0) (x := "_law_hand") (by decide +kernel))) (da_cons (de_var (Sl.of B.bs (i := 1) (x := "_law_some") (by decide +kernel))) (da_cons (de_int) (da_cons (de_var (Sl.of B.bs (i := 2) (x := "_law_longest") (by decide +kernel))) (da_nil)))))) do_none (do_some (de_int)))) (dss_cons (ds_set (Sn.of B (i := 5) (x := "_law_way") (by decide +kernel)) (de_call B.bs.toBd F__law_draw (by decide) (Gn.of B.bs T.m__law_draw (by decide +kernel)) (da_cons (de_var (Sl.of B.bs (i := 0) (x := "_law_hand") (by decide +kernel))) (da_cons (de_int) (da_nil))))) (dss_cons (ds_if (dt_bool (dw_and (dt_cmp (dop_ne B.bs.toBd) (de_var (Sl.of B.bs (i := 3) (x := "_law_words_here") (by decide +kernel))) (de_lst (da_nil)) rfl) (dw_and1 (dt_cmp (dop_gtD B.bs.toBd) (de_var (Sl.of B.bs (i := 5) (x := "_law_way") (by decide +kernel))) (de_int) rfl)))) (dss_cons (ds_set (Sn.of B (i := 6) (x := "_law_at") (by decide +kernel)) (de_bin dop_mod (de_call B.bs.toBd F__law_draw (by decide) (Gn.of B.bs T.m__law_draw (by decide +kernel)) (da_cons (de_var (Sl.of B.bs (i := 0) (x := "_law_hand") (by decide +kernel))) (da_cons (de_int) (da_nil)))) (de_callB B.bs.toBd (dc_len B.bs.toBd) (Bn.of B.bs T.n_len bt_len (by decide +kernel) (by decide +kernel)) (da_cons (de_var (Sl.of B.bs (i := 3) (x := "_law_words_here") (by decide +kernel))) (da_nil))))) (dss_cons (ds_set (Sn.of B (i := 4) (x := "_law_others") (by decide +kernel)) (de_bin (dop_add B.bs.toBd) (de_slice B.bs.toBd (de_var (Sl.of B.bs (i := 3) (x := "_law_words_here") (by decide +kernel))) do_none (do_some (de_var (Sl.of B.bs (i := 6) (x := "_law_at") (by decide +kernel))))) (de_slice B.bs.toBd (de_var (Sl.of B.bs (i := 3) (x := "_law_words_here") (by decide +kernel))) (do_some (de_bin (dop_add B.bs.toBd) (de_var (Sl.of B.bs (i := 6) (x := "_law_at") (by decide +kernel))) (de_int))) do_none))) (dss_cons (ds_if (dt_bool (dw_and (dt_cmp (dop_eq B.bs.toBd) (de_var (Sl.of B.bs (i := 5) (x := "_law_way") (by decide +kernel))) (de_int) rfl) (dw_and1 (dt_cmp (dop_ltD B.bs.toBd) (de_callB B.bs.toBd (dc_len B.bs.toBd) (Bn.of B.bs T.n_len bt_len (by decide +kernel) (by decide +kernel)) (da_cons (de_ixA B.bs.toBd (de_var (Sl.of B.bs (i := 3) (x := "_law_words_here") (by decide +kernel))) (de_var (Sl.of B.bs (i := 6) (x := "_law_at") (by decide +kernel))) (fun _ _ => rfl)) (da_nil))) (de_int) rfl)))) (dss_one (ds_set (Sn.of B (i := 4) (x := "_law_others") (by decide +kernel)) (de_bin (dop_add B.bs.toBd) (de_var (Sl.of B.bs (i := 4) (x := "_law_others") (by decide +kernel))) (de_lc B.bs.toBd (own := [("_law_one", 9)]) (own2 := [9]) (di_list B.bs.toBd (de_slice B.bs.toBd (de_var (Sl.of B.bs (i := 1) (x := "_law_some") (by decide +kernel))) do_none (do_some (de_int)))) (by rw [B.bs.eN, B.bs.esc]; decide +kernel) (by decide) (fun X1 B1_ h1 h2 => have B1 := Bs.blk B.bs B1_ h1 h2; dg_name (Sn.blk B1 (i := 9) (x := "_law_one") (by decide +kernel))) (fun X1 B1_ h1 h2 => have B1 := Bs.blk B.bs B1_ h1 h2; dts_nil) (fun X1 B1_ h1 h2 => have B1 := Bs.blk B.bs B1_ h1 h2; (de_bin (dop_add B1.toBd) (de_ixA B1.toBd (de_var (Sl.of B1 (i := 3) (x := "_law_words_here") (by decide +kernel))) (de_var (Sl.of B1 (i := 6) (x := "_law_at") (by decide +kernel))) (fun _ _ => rfl)) (de_tup (da_cons (de_var (Sl.of B1 (i := 9) (x := "_law_one") (by decide +kernel))) (da_nil))))))))) (dss_nil)) (dss_one (ds_if (dt_bool (dw_and (dt_cmp (dop_eq B.bs.toBd) (de_var (Sl.of B.bs (i := 5) (x := "_law_way") (by decide +kernel))) (de_int) rfl) (dw_and1 (dt_cmp (dop_ltD B.bs.toBd) (de_callB B.bs.toBd (dc_len B.bs.toBd) (Bn.of B.bs T.n_len bt_len (by decide +kernel) (by decide +kernel)) (da_cons (de_ixA B.bs.toBd (de_var (Sl.of B.bs (i := 3) (x := "_law_words_here") (by decide +kernel))) (de_var (Sl.of B.bs (i := 6) (x := "_law_at") (by decide +kernel))) (fun _ _ => rfl)) (da_nil))) (de_int) rfl)))) (dss_one (ds_set (Sn.of B (i := 4) (x := "_law_others") (by decide +kernel)) (de_bin (dop_add B.bs.toBd) (de_var (Sl.of B.bs (i := 4) (x := "_law_others") (by decide +kernel))) (de_lst (da_cons (de_bin (dop_add B.bs.toBd) (de_ixA B.bs.toBd (de_var (Sl.of B.bs (i := 3) (x := "_law_words_here") (by decide +kernel))) (de_var (Sl.of B.bs (i := 6) (x := "_law_at") (by decide +kernel))) (fun _ _ => rfl)) (de_tup (da_cons (de_ixA B.bs.toBd (de_var (Sl.of B.bs (i := 1) (x := "_law_some") (by decide +kernel))) (de_int) (fun _ _ => rfl)) (da_nil)))) (da_nil)))))) (dss_nil)))))) (dss_nil)) (dss_cons (ds_if (dt_bool (dw_and (dt_cmp (dop_ltD B.bs.toBd) (de_callB B.bs.toBd (dc_len B.bs.toBd) (Bn.of B.bs T.n_len bt_len (by decide +kernel) (by decide +kernel)) (da_cons (de_var (Sl.of B.bs (i := 4) (x := "_law_others") (by decide +kernel))) (da_nil))) (de_ixA B.bs.toBd (de_lst (da_cons (de_int) (da_cons (de_int) (da_nil)))) (de_callTy B.bs.toBd dc_int (Bn.of B.bs T.n_int bt_int (by decide +kernel) (by decide +kernel)) (da_cons (de_cmp (dop_gtD B.bs.toBd) (de_callB B.bs.toBd (dc_len B.bs.toBd) (Bn.of B.bs T.n_len bt_len (by decide +kernel) (by decide +kernel)) (da_cons (de_var (Sl.of B.bs (i := 1) (x := "_law_some") (by decide +kernel))) (da_nil))) (de_int) rfl) (da_nil))) (fun _ _ => rfl)) rfl) (dw_and1 (dt_cmp (dop_eq B.bs.toBd) (de_call B.bs.toBd F__law_draw (by decide) (Gn.of B.bs T.m__law_draw (by decide +kernel)) (da_cons (de_var (Sl.of B.bs (i := 0) (x := "_law_hand") (by decide +kernel))) (da_cons (de_int) (da_nil)))) (de_int) rfl)))) (dss_one (ds_asg (de_tup (da_cons (de_var (Sl.of B.bs (i := 4) (x := "_law_others") (by decide +kernel))) (da_cons (de_var (Sl.of B.bs (i := 3) (x := "_law_words_here") (by decide +kernel))) (da_nil)))) (dg_tup B.bs.toBd (n := 2) (dgs_cons (dg_name (Sn.of B (i := 3) (x := "_law_words_here") (by decide +kernel))) (dgs_cons (dg_name (Sn.of B (i := 4) (x := "_law_others") (by decide +kernel))) (dgs_nil))) (gl_len (gl_cons gt_nm (gl_cons gt_nm (gl_nil))))) rfl (par_cellL (by rw [B.bs.esc]; rfl)))) (dss_nil)) (dss_cons (ds_set (Sn.of B (i := 7) (x := "_law_signs_here") (by decide +kernel)) (de_call B.bs.toBd F__law_signs (by decide) (Gn.of B.bs T.m__law_signs (by decide +kernel)) (da_cons (de_var (Sl.of B.bs (i := 0) (x := "_law_hand") (by decide +kernel))) (da_cons (de_int) (da_nil))))) (dss_cons (ds_set (Sn.of B (i := 8) (x := "_law_first") (by decide +kernel)) (de_call B.bs.toBd F__law_table (by decide) (Gn.of B.bs T.m__law_table (by decide +kernel)) (da_cons (de_var (Sl.of B.bs (i := 0) (x := "_law_hand") (by decide +kernel))) (da_cons (de_var (Sl.of B.bs (i := 3) (x := "_law_words_here") (by decide +kernel))) (da_cons (de_var (Sl.of B.bs (i := 7) (x := "_law_signs_here") (by decide +kernel))) (da_nil)))))) (dss_cons (ds_if (dt_cmp (dop_eq B.bs.toBd) (de_var (Sl.of B.bs (i := 5) (x := "_law_way") (by decide +kernel))) (de_int) rfl) (dss_one (ds_ret (de_tup (da_cons (de_var (Sl.of B.bs (i := 8) (x := "_law_first") (by decide +kernel))) (da_cons (de_call B.bs.toBd F__law_table (by decide) (Gn.of B.bs T.m__law_table (by decide +kernel)) (da_cons (de_var (Sl.of B.bs (i := 0) (x := "_law_hand") (by decide +kernel))) (da_cons (de_var (Sl.of B.bs (i := 3) (x := "_law_words_here") (by decide +kernel))) (da_cons (de_var (Sl.of B.bs (i := 7) (x := "_law_signs_here") (by decide +kernel))) (da_nil))))) (da_nil)))))) (dss_nil)) (dss_one (ds_ret (de_tup (da_cons (de_var (Sl.of B.bs (i := 8) (x := "_law_first") (by decide +kernel))) (da_cons (de_call B.bs.toBd F__law_table (by decide) (Gn.of B.bs T.m__law_table (by decide +kernel)) (da_cons (de_var (Sl.of B.bs (i := 0) (x := "_law_hand") (by decide +kernel))) (da_cons (de_var (Sl.of B.bs (i := 4) (x := "_law_others") (by decide +kernel))) (da_cons (de_var (Sl.of B.bs (i := 7) (x := "_law_signs_here") (by decide +kernel))) (da_nil))))) (da_nil)))))))))))))))
abbrev n__law_open : List Str := ["_law_script", "_law_place", "_law_cells", "_law_at", "_law_digits", "_law_cell"]
theorem sc__law_open : FnScope n__law_open ["_law_script", "_law_place"] (defScope st__law_open) := ⟨rfl, rfl, rfl, by decide +kernel, rfl, by decide +kernel, by decide +kernel⟩
theorem der__law_open {G : Gx} (T : Tx G.K G.mg) (X : Cx) (W : WX) (B : Bf G 0 n__law_open (defScope st__law_open) X W) : DSs G X W (defBody st__law_open) (W__law_open) :=
  dss_cons (ds_setLc B.bs.toBd (B.bs.ix rfl) (B.bs.loc (by decide +kernel)) (sw_true (by rw [B.esc]; rfl) (B.bs.loc (by decide +kernel)) rfl (by decide +kernel)) (own := [("_law_cell", 5)]) (own2 := [5]) (di_list B.bs.toBd (de_slice B.bs.toBd (de_var (Sl.of B.bs (i := 0) (x := "_law_script") (by decide +kernel))) do_none (do_some (de_int)))) (by rw [B.bs.eN, B.bs.esc]; decide +kernel) (by decide) (fun X1 B1_ h1 h2 => have B1 := Bs.blk B.bs B1_ h1 h2; dg_name (Sn.blk B1 (i := 5) (x := "_law_cell") (by decide +kernel))) (fun X1 B1_ h1 h2 => have B1 := Bs.blk B.bs B1_ h1 h2; dts_nil) (fun X1 B1_ h1 h2 => have B1 := Bs.blk B.bs B1_ h1 h2; (de_callB B1.toBd dc_abs (Bn.of B1 T.n_abs bt_abs (by decide +kernel) (by decide +kernel)) (da_cons (de_var (Sl.of B1 (i := 5) (x := "_law_cell") (by decide +kernel))) (da_nil))))) (dss_cons (ds_if (dt_cmp (dop_eq B.bs.toBd) (de_var (Sl.of B.bs (i := 2) (x := "_law_cells") (by decide +kernel))) (de_lst (da_nil)) rfl) (dss_one (ds_set (Sn.of B (i := 2) (x := "_law_cells") (by decide +kernel)) (de_lst (da_cons (de_int) (da_nil))))) (dss_nil)) (dss_cons (ds_set (Sn.of B (i := 3) (x := "_law_at") (by decide +kernel)) (de_bin dop_mod (de_var (Sl.of B.bs (i := 1) (x := "_law_place") (by decide +kernel))) (de_callB B.bs.toBd (dc_len B.bs.toBd) (Bn.of B.bs T.n_len bt_len (by decide +kernel) (by decide +kernel)) (da_cons (de_var (Sl.of B.bs (i := 2) (x := "_law_cells") (by decide +kernel))) (da_nil))))) (dss_cons (ds_set (Sn.of B (i := 4) (x := "_law_digits") (by decide +kernel)) (de_int)) (dss_cons (ds_if (dt_bool (dw_and (dt_cmp dop_geI (de_ixA B.bs.toBd (de_var (Sl.of B.bs (i := 2) (x := "_law_cells") (by decide +kernel))) (de_var (Sl.of B.bs (i := 3) (x := "_law_at") (by decide +kernel))) (fun _ _ => rfl)) (de_bin dop_pow (de_int) (de_int)) rfl) (dw_and1 (dt_cmp (dop_ltD B.bs.toBd) (de_var (Sl.of B.bs (i := 1) (x := "_law_place") (by decide +kernel))) (de_callB B.bs.toBd (dc_len B.bs.toBd) (Bn.of B.bs T.n_len bt_len (by decide +kernel) (by decide +kernel)) (da_cons (de_var (Sl.of B.bs (i := 2) (x := "_law_cells") (by decide +kernel))) (da_nil))) rfl)))) (dss_one (ds_set (Sn.of B (i := 4) (x := "_law_digits") (by decide +kernel)) (de_ixA B.bs.toBd (de_var (Sl.of B.bs (i := 2) (x := "_law_cells") (by decide +kernel))) (de_var (Sl.of B.bs (i := 3) (x := "_law_at") (by decide +kernel))) (fun _ _ => rfl)))) (dss_nil)) (dss_one (ds_ret (de_lstO (da_cons (de_var (Sl.of B.bs (i := 4) (x := "_law_digits") (by decide +kernel))) (da_cons (de_bin (dop_add B.bs.toBd) (de_int) (de_bin dop_mul (de_int) (de_var (Sl.of B.bs (i := 1) (x := "_law_place") (by decide +kernel))))) (da_cons (de_bin (dop_add B.bs.toBd) (de_slice B.bs.toBd (de_var (Sl.of B.bs (i := 2) (x := "_law_cells") (by decide +kernel))) (do_some (de_var (Sl.of B.bs (i := 3) (x := "_law_at") (by decide +kernel)))) do_none) (de_slice B.bs.toBd (de_var (Sl.of B.bs (i := 2) (x := "_law_cells") (by decide +kernel))) do_none (do_some (de_var (Sl.of B.bs (i := 3) (x := "_law_at") (by decide +kernel)))))) (da_nil)))))))))))
abbrev n_law : List Str := ["_law_script", "_law_hand", "_law_one", "_law_other", "_law_mine", "_law_theirs", "_law_states", "_law_apart", "_law_at", "_law_more", "_law_rest", "_law_left", "_law_right", "_law_unlike", "_law_other_ones", "_law_state", "_law_some", "_law_kept"]
theorem sc_law : FnScope n_law ["_law_script"] (defScope st_law) := ⟨rfl, rfl, rfl, by decide +kernel, rfl, by decide +kernel, by decide +kernel⟩
theorem der_law {G : Gx} (T : Tx G.K G.mg) {s__law_tells : DSp} (F__law_tells : Fd G 8 4 T.f__law_tells s__law_tells) {s__law_draw : DSp} (F__law_draw : Fd G 1 2 T.f__law_draw s__law_draw) {s__law_end : DSp} (F__law_end : Fd G 3 2 T.f__law_end s__law_end) {s__law_reached : DSp} (F__law_reached : Fd G 5 2 T.f__law_reached s__law_reached) {s_Code_init : DSp} (F_Code_init : Fd G 3 2 T.f_Code_init s_Code_init) {s__law_two : DSp} (F__law_two : Fd G 3 1 T.f__law_two s__law_two) {s__law_open : DSp} (F__law_open : Fd G 1 2 T.f__law_open s__law_open) (X : Cx) (W : WX) (B : Bf G 8 n_law (defScope st_law) X W) : DSs G X W (defBody st_law) (W_law T.C_Code s__law_tells s__law_draw s__law_end s__law_reached s_Code_init s__law_two s__law_open) :=
  dss_cons (ds_set (Sn.of B (i := 1) (x := "_law_hand") (by decide +kernel)) (de_call B.bs.toBd F__law_open (by decide) (Gn.of B.bs T.m__law_open (by decide +kernel)) (da_cons (de_var (Sl.of B.bs (i := 0) (x := "_law_script") (by decide +kernel))) (da_cons (de_int) (da_nil))))) (dss_cons (ds_asg (de_call B.bs.toBd F__law_two (by decide) (Gn.of B.bs T.m__law_two (by decide +kernel)) (da_cons (de_var (Sl.of B.bs (i := 1) (x := "_law_hand") (by decide +kernel))) (da_nil))) (dg_tup B.bs.toBd (n := 2) (dgs_cons (dg_name (Sn.of B (i := 2) (x := "_law_one") (by decide +kernel))) (dgs_cons (dg_name (Sn.of B (i := 3) (x := "_law_other") (by decide +kernel))) (dgs_nil))) (gl_len (gl_cons gt_nm (gl_cons gt_nm (gl_nil)))))) (dss_cons (ds_par B.bs.toBd (i := 4) (j := 5) (x := "_law_mine") (y := "_law_theirs") (B.bs.ix rfl) (B.bs.ix rfl) (by decide) (B.bs.loc (by decide +kernel)) (B.bs.loc (by decide +kernel)) (da_cons (de_frz (de_make B.bs.toBd T.mk_Code F_Code_init (by decide) (Gn.of B.bs T.m_Code (by decide +kernel)) (da_cons (de_callTy B.bs.toBd (dc_list B.bs.toBd) (Bn.of B.bs T.n_list bt_list (by decide +kernel) (by decide +kernel)) (da_cons (de_var (Sl.of B.bs (i := 2) (x := "_law_one") (by decide +kernel))) (da_nil))) (da_nil)))) (da_cons (de_frz (de_make B.bs.toBd T.mk_Code F_Code_init (by decide) (Gn.of B.bs T.m_Code (by decide +kernel)) (da_cons (de_callTy B.bs.toBd (dc_list B.bs.toBd) (Bn.of B.bs T.n_list bt_list (by decide +kernel) (by decide +kernel)) (da_cons (de_var (Sl.of B.bs (i := 3) (x := "_law_other") (by decide +kernel))) (da_nil))) (da_nil)))) (da_nil))) (par_sw (by rw [B.bs.esc]; rfl) (B.bs.loc (by decide +kernel)) (B.bs.loc (by decide +kernel)) rfl (fun _ _ h => by cases h) (fun _ _ h => by cases h) (by decide +kernel) rfl rfl)) (dss_cons (ds_set (Sn.of B (i := 6) (x := "_law_states") (by decide +kernel)) (de_call B.bs.toBd F__law_reached (by decide) (Gn.of B.bs T.m__law_reached (by decide +kernel)) (da_cons (de_var (Sl.of B.bs (i := 2) (x := "_law_one") (by decide +kernel))) (da_cons (de_var (Sl.of B.bs (i := 3) (x := "_law_other") (by decide +kernel))) (da_nil))))) (dss_cons (ds_set (Sn.of B (i := 7) (x := "_law_apart") (by decide +kernel)) (de_cmp (dop_eq B.bs.toBd) (de_lc B.bs.toBd (own := [("_law_state", 15)]) (own2 := [15]) (di_list B.bs.toBd (de_var (Sl.of B.bs (i := 6) (x := "_law_states") (by decide +kernel)))) (by rw [B.bs.eN, B.bs.esc]; decide +kernel) (by decide) (fun X2 B2_ h1 h2 => have B2 := Bs.blk B.bs B2_ h1 h2; dg_name (Sn.blk B2 (i := 15) (x := "_law_state") (by decide +kernel))) (fun X2 B2_ h1 h2 => have B2 := Bs.blk B.bs B2_ h1 h2; dts_one (dt_val (de_call B2.toBd F__law_end (by decide) (Gn.of B2 T.m__law_end (by decide +kernel)) (da_cons (de_var (Sl.of B2 (i := 3) (x := "_law_other") (by decide +kernel))) (da_cons (de_var (Sl.of B2 (i := 15) (x := "_law_state") (by decide +kernel))) (da_nil)))))) (fun X2 B2_ h1 h2 => have B2 := Bs.blk B.bs B2_ h1 h2; (de_var (Sl.of B2 (i := 15) (x := "_law_state") (by decide +kernel))))) (de_lst (da_nil)) rfl)) (dss_cons (ds_set (Sn.of B (i := 8) (x := "_law_at") (by decide +kernel)) (de_bin dop_mod (de_call B.bs.toBd F__law_draw (by decide) (Gn.of B.bs T.m__law_draw (by decide +kernel)) (da_cons (de_var (Sl.of B.bs (i := 1) (x := "_law_hand") (by decide +kernel))) (da_cons (de_int) (da_nil)))) (de_callB B.bs.toBd (dc_len B.bs.toBd) (Bn.of B.bs T.n_len bt_len (by decide +kernel) (by decide +kernel)) (da_cons (de_var (Sl.of B.bs (i := 6) (x := "_law_states") (by decide +kernel))) (da_nil))))) (dss_cons (ds_set (Sn.of B (i := 9) (x := "_law_more") (by decide +kernel)) (de_lst (da_cons (de_tup (da_cons (de_tup (da_cons (de_int) (da_cons (de_int) (da_cons (de_int) (da_cons (de_int) (da_cons (de_int) (da_nil))))))) (da_cons (de_tup (da_nil)) (da_cons (de_tup (da_nil)) (da_cons (de_bl) (da_nil)))))) (da_cons (de_tup (da_cons (de_int) (da_cons (de_str) (da_nil)))) (da_cons (de_tup (da_cons (de_tup (da_nil)) (da_cons (de_tup (da_nil)) (da_cons (de_tup (da_nil)) (da_cons (de_bl) (da_nil)))))) (da_cons (de_tup (da_cons (de_tup (da_cons (de_tup (da_cons (de_int) (da_nil))) (da_nil))) (da_cons (de_tup (da_cons (de_non) (da_cons (de_str) (da_nil)))) (da_cons (de_tup (da_nil)) (da_cons (de_int) (da_nil)))))) (da_nil))))))) (dss_cons (ds_asg (de_ixA B.bs.toBd (de_var (Sl.of B.bs (i := 6) (x := "_law_states") (by decide +kernel))) (de_var (Sl.of B.bs (i := 8) (x := "_law_at") (by decide +kernel))) (fun _ _ => rfl)) (dg_tup B.bs.toBd (n := 4) (dgs_cons (dg_name (Sn.of B (i := 10) (x := "_law_rest") (by decide +kernel))) (dgs_cons (dg_name (Sn.of B (i := 11) (x := "_law_left") (by decide +kernel))) (dgs_cons (dg_name (Sn.of B (i := 12) (x := "_law_right") (by decide +kernel))) (dgs_cons (dg_name (Sn.of B (i := 13) (x := "_law_unlike") (by decide +kernel))) (dgs_nil))))) (gl_len (gl_cons gt_nm (gl_cons gt_nm (gl_cons gt_nm (gl_cons gt_nm (gl_nil)))))))) (dss_cons (ds_set (Sn.of B (i := 14) (x := "_law_other_ones") (by decide +kernel)) (de_lstO (da_cons (de_tup (da_cons (de_var (Sl.of B.bs (i := 10) (x := "_law_rest") (by decide +kernel))) (da_cons (de_var (Sl.of B.bs (i := 11) (x := "_law_left") (by decide +kernel))) (da_cons (de_var (Sl.of B.bs (i := 12) (x := "_law_right") (by decide +kernel))) (da_cons (de_not (de_var (Sl.of B.bs (i := 13) (x := "_law_unlike") (by decide +kernel)))) (da_nil)))))) (da_nil)))) (dss_cons (ds_if (dt_cmp (dop_ne B.bs.toBd) (de_var (Sl.of B.bs (i := 11) (x := "_law_left") (by decide +kernel))) (de_var (Sl.of B.bs (i := 12) (x := "_law_right") (by decide +kernel))) rfl) (dss_one (ds_expr (de_bm B.bs.toBd PySem.F.slot_list_append PySem.F.type_list_append md_append (de_var (Sl.of B.bs (i := 14) (x := "_law_other_ones") (by decide +kernel))) (da_cons (de_tup (da_cons (de_var (Sl.of B.bs (i := 10) (x := "_law_rest") (by decide +kernel))) (da_cons (de_var (Sl.of B.bs (i := 12) (x := "_law_right") (by decide +kernel))) (da_cons (de_var (Sl.of B.bs (i := 11) (x := "_law_left") (by decide +kernel))) (da_cons (de_var (Sl.of B.bs (i := 13) (x := "_law_unlike") (by decide +kernel))) (da_nil)))))) (da_nil))))) (dss_nil)) (dss_cons (ds_if (dt_bool (dw_or (dt_not (dt_val (de_call B.bs.toBd F__law_tells (by decide) (Gn.of B.bs T.m__law_tells (by decide +kernel)) (da_cons (de_var (Sl.of B.bs (i := 4) (x := "_law_mine") (by decide +kernel))) (da_cons (de_var (Sl.of B.bs (i := 5) (x := "_law_theirs") (by decide +kernel))) (da_cons (de_var (Sl.of B.bs (i := 6) (x := "_law_states") (by decide +kernel))) (da_cons (de_var (Sl.of B.bs (i := 7) (x := "_law_apart") (by decide +kernel))) (da_nil)))))))) (dw_or1 (dt_not (dt_val (de_call B.bs.toBd F__law_tells (by decide) (Gn.of B.bs T.m__law_tells (by decide +kernel)) (da_cons (de_var (Sl.of B.bs (i := 4) (x := "_law_mine") (by decide +kernel))) (da_cons (de_var (Sl.of B.bs (i := 5) (x := "_law_theirs") (by decide +kernel))) (da_cons (de_rev B.bs.toBd (de_var (Sl.of B.bs (i := 6) (x := "_law_states") (by decide +kernel)))) (da_cons (de_var (Sl.of B.bs (i := 7) (x := "_law_apart") (by decide +kernel))) (da_nil))))))))))) (dss_one (ds_ret (de_bl))) (dss_nil)) (dss_cons (ds_if (dt_not (dt_val (de_call B.bs.toBd F__law_tells (by decide) (Gn.of B.bs T.m__law_tells (by decide +kernel)) (da_cons (de_var (Sl.of B.bs (i := 4) (x := "_law_mine") (by decide +kernel))) (da_cons (de_var (Sl.of B.bs (i := 5) (x := "_law_theirs") (by decide +kernel))) (da_cons (de_bin (dop_add B.bs.toBd) (de_bin (dop_add B.bs.toBd) (de_bin (dop_add B.bs.toBd) (de_slice B.bs.toBd (de_var (Sl.of B.bs (i := 6) (x := "_law_states") (by decide +kernel))) do_none (do_some (de_var (Sl.of B.bs (i := 8) (x := "_law_at") (by decide +kernel))))) (de_var (Sl.of B.bs (i := 9) (x := "_law_more") (by decide +kernel)))) (de_slice B.bs.toBd (de_var (Sl.of B.bs (i := 6) (x := "_law_states") (by decide +kernel))) (do_some (de_var (Sl.of B.bs (i := 8) (x := "_law_at") (by decide +kernel)))) do_none)) (de_lst (da_cons (de_ixA B.bs.toBd (de_var (Sl.of B.bs (i := 6) (x := "_law_states") (by decide +kernel))) (de_var (Sl.of B.bs (i := 8) (x := "_law_at") (by decide +kernel))) (fun _ _ => rfl)) (da_nil)))) (da_cons (de_var (Sl.of B.bs (i := 7) (x := "_law_apart") (by decide +kernel))) (da_nil)))))))) (dss_one (ds_ret (de_bl))) (dss_nil)) (dss_cons (ds_if (dt_not (dt_val (de_call B.bs.toBd F__law_tells (by decide) (Gn.of B.bs T.m__law_tells (by decide +kernel)) (da_cons (de_var (Sl.of B.bs (i := 4) (x := "_law_mine") (by decide +kernel))) (da_cons (de_var (Sl.of B.bs (i := 5) (x := "_law_theirs") (by decide +kernel))) (da_cons (de_bin (dop_add B.bs.toBd) (de_slice B.bs.toBd (de_var (Sl.of B.bs (i := 6) (x := "_law_states") (by decide +kernel))) do_none (do_some (de_var (Sl.of B.bs (i := 8) (x := "_law_at") (by decide +kernel))))) (de_slice B.bs.toBd (de_var (Sl.of B.bs (i := 6) (x := "_law_states") (by decide +kernel))) (do_some (de_bin (dop_add B.bs.toBd) (de_var (Sl.of B.bs (i := 8) (x := "_law_at") (by decide +kernel))) (de_int))) do_none)) (da_cons (de_bl) (da_nil)))))))) (dss_one (ds_ret (de_bl))) (dss_nil)) (dss_cons (ds_for B.bs.toBd (di_list B.bs.toBd (de_var (Sl.of B.bs (i := 14) (x := "_law_other_ones") (by decide +kernel)))) (dg_name (Sn.of B (i := 15) (x := "_law_state") (by decide +kernel))) (dss_cons (ds_set (Sn.of B (i := 16) (x := "_law_some") (by decide +kernel)) (de_bin (dop_add B.bs.toBd) (de_lc B.bs.toBd (own := [("_law_kept", 17)]) (own2 := [17]) (di_list B.bs.toBd (de_var (Sl.of B.bs (i := 6) (x := "_law_states") (by decide +kernel)))) (by rw [B.bs.eN, B.bs.esc]; decide +kernel) (by decide) (fun X1 B1_ h1 h2 => have B1 := Bs.blk B.bs B1_ h1 h2; dg_name (Sn.blk B1 (i := 17) (x := "_law_kept") (by decide +kernel))) (fun X1 B1_ h1 h2 => have B1 := Bs.blk B.bs B1_ h1 h2; dts_one (dt_cmp (dop_ne B1.toBd) (de_var (Sl.of B1 (i := 17) (x := "_law_kept") (by decide +kernel))) (de_ixA B1.toBd (de_var (Sl.of B1 (i := 6) (x := "_law_states") (by decide +kernel))) (de_var (Sl.of B1 (i := 8) (x := "_law_at") (by decide +kernel))) (fun _ _ => rfl)) rfl)) (fun X1 B1_ h1 h2 => have B1 := Bs.blk B.bs B1_ h1 h2; (de_var (Sl.of B1 (i := 17) (x := "_law_kept") (by decide +kernel))))) (de_lst (da_cons (de_var (Sl.of B.bs (i := 15) (x := "_law_state") (by decide +kernel))) (da_nil))))) (dss_one (ds_if (dt_not (dt_val (de_call B.bs.toBd F__law_tells (by decide) (Gn.of B.bs T.m__law_tells (by decide +kernel)) (da_cons (de_var (Sl.of B.bs (i := 4) (x := "_law_mine") (by decide +kernel))) (da_cons (de_var (Sl.of B.bs (i := 5) (x := "_law_theirs") (by decide +kernel))) (da_cons (de_var (Sl.of B.bs (i := 16) (x := "_law_some") (by decide +kernel))) (da_cons (de_bl) (da_nil)))))))) (dss_one (ds_ret (de_bl))) (dss_nil))))) (dss_one (ds_ret (de_and (de_call B.bs.toBd F__law_tells (by decide) (Gn.of B.bs T.m__law_tells (by decide +kernel)) (da_cons (de_var (Sl.of B.bs (i := 4) (x := "_law_mine") (by decide +kernel))) (da_cons (de_var (Sl.of B.bs (i := 5) (x := "_law_theirs") (by decide +kernel))) (da_cons (de_lst (da_nil)) (da_cons (de_bl) (da_nil)))))) (de_one (de_call B.bs.toBd F__law_tells (by decide) (Gn.of B.bs T.m__law_tells (by decide +kernel)) (da_cons (de_var (Sl.of B.bs (i := 4) (x := "_law_mine") (by decide +kernel))) (da_cons (de_var (Sl.of B.bs (i := 5) (x := "_law_theirs") (by decide +kernel))) (da_cons (de_var (Sl.of B.bs (i := 6) (x := "_law_states") (by decide +kernel))) (da_cons (de_var (Sl.of B.bs (i := 7) (x := "_law_apart") (by decide +kernel))) (da_nil)))))))))))))))))))))))
end DL
namespace DL
open PySem PySem.Spec L2
theorem fd_Code_table {G : Gx} (T : Tx G.K G.mg) : Fd G 1 1 T.f_Code_table (s_Code_table T.C_Code) :=
  fd_of T.F_Code_table sc_Code_table T.b_Code_table (fun X W B => der_Code_table T  X W B) (fun ds M q ex hl h => ok_Code_table T.C_Code ds M q ex hl h)
theorem fd_Code_live {G : Gx} (T : Tx G.K G.mg) : Fd G 1 2 T.f_Code_live (s_Code_live T.C_Code) :=
  fd_of T.F_Code_live sc_Code_live T.b_Code_live (fun X W B => der_Code_live T  X W B) (fun ds M q ex hl h => ok_Code_live T.C_Code ds M q ex hl h)
theorem fd_Code_sign {G : Gx} (T : Tx G.K G.mg) : Fd G 1 2 T.f_Code_sign (s_Code_sign T.C_Code) :=
  fd_of T.F_Code_sign sc_Code_sign T.b_Code_sign (fun X W B => der_Code_sign T  X W B) (fun ds M q ex hl h => ok_Code_sign T.C_Code ds M q ex hl h)
theorem fd_entry_at {G : Gx} (T : Tx G.K G.mg) : Fd G 2 2 T.f_entry_at (s_entry_at T.C_Code) :=
  fd_of T.F_entry_at sc_entry_at T.b_entry_at (fun X W B => der_entry_at T (fd_Code_live T) (fd_Code_sign T) X W B) (fun ds M q ex hl h => ok_entry_at T.C_Code ds M q ex hl h)
theorem fd_settled {G : Gx} (T : Tx G.K G.mg) : Fd G 3 3 T.f_settled (s_settled T.C_Code) :=
  fd_of T.F_settled sc_settled T.b_settled (fun X W B => der_settled T (fd_entry_at T) X W B) (fun ds M q ex hl h => ok_settled T.C_Code ds M q ex hl h)
theorem fd_grown {G : Gx} (T : Tx G.K G.mg) : Fd G 4 3 T.f_grown (s_grown T.C_Code) :=
  fd_of T.F_grown sc_grown T.b_grown (fun X W B => der_grown T (fd_settled T) X W B) (fun ds M q ex hl h => ok_grown T.C_Code ds M q ex hl h)
theorem fd_alike_steps {G : Gx} (T : Tx G.K G.mg) : Fd G 5 3 T.f_alike_steps (s_alike_steps T.C_Code) :=
  fd_of T.F_alike_steps sc_alike_steps T.b_alike_steps (fun X W B => der_alike_steps T (fd_grown T) (fd_settled T) (fd_Code_table T) X W B) (fun ds M q ex hl h => ok_alike_steps T.C_Code ds M q ex hl h)
theorem fd_next_steps {G : Gx} (T : Tx G.K G.mg) : Fd G 6 3 T.f_next_steps (s_next_steps T.C_Code) :=
  fd_of T.F_next_steps sc_next_steps T.b_next_steps (fun X W B => der_next_steps T (fd_Code_table T) (fd_grown T) (fd_alike_steps T) X W B) (fun ds M q ex hl h => ok_next_steps T.C_Code ds M q ex hl h)
theorem fd_Code_longest {G : Gx} (T : Tx G.K G.mg) : Fd G 1 1 T.f_Code_longest (s_Code_longest T.C_Code) :=
  fd_of T.F_Code_longest sc_Code_longest T.b_Code_longest (fun X W B => der_Code_longest T  X W B) (fun ds M q ex hl h => ok_Code_longest T.C_Code ds M q ex hl h)
theorem fd_sign_from {G : Gx} (T : Tx G.K G.mg) : Fd G 2 3 T.f_sign_from (s_sign_from T.C_Code) :=
  fd_of T.F_sign_from sc_sign_from T.b_sign_from (fun X W B => der_sign_from T (fd_Code_longest T) (fd_Code_sign T) X W B) (fun ds M q ex hl h => ok_sign_from T.C_Code ds M q ex hl h)
theorem fd_spilt {G : Gx} (T : Tx G.K G.mg) : Fd G 3 2 T.f_spilt (s_spilt T.C_Code) :=
  fd_of T.F_spilt sc_spilt T.b_spilt (fun X W B => der_spilt T (fd_sign_from T) X W B) (fun ds M q ex hl h => ok_spilt T.C_Code ds M q ex hl h)
theorem fd_spill {G : Gx} (T : Tx G.K G.mg) : Fd G 4 2 T.f_spill (s_spill T.C_Code) :=
  fd_of T.F_spill sc_spill T.b_spill (fun X W B => der_spill T (fd_spilt T) X W B) (fun ds M q ex hl h => ok_spill T.C_Code ds M q ex hl h)
theorem fd_is_end {G : Gx} (T : Tx G.K G.mg) : Fd G 5 2 T.f_is_end (s_is_end T.C_Code) :=
  fd_of T.F_is_end sc_is_end T.b_is_end (fun X W B => der_is_end T (fd_spill T) X W B) (fun ds M q ex hl h => ok_is_end T.C_Code ds M q ex hl h)
theorem fd_shows_apart {G : Gx} (T : Tx G.K G.mg) : Fd G 7 3 T.f_shows_apart (s_shows_apart T.C_Code) :=
  fd_of T.F_shows_apart sc_shows_apart T.b_shows_apart (fun X W B => der_shows_apart T (fd_next_steps T) (fd_is_end T) X W B) (fun ds M q ex hl h => ok_shows_apart T.C_Code ds M q ex hl h)
theorem fd__law_tells {G : Gx} (T : Tx G.K G.mg) : Fd G 8 4 T.f__law_tells (s__law_tells T.C_Code) :=
  fd_of T.F__law_tells sc__law_tells T.b__law_tells (fun X W B => der__law_tells T (fd_shows_apart T) X W B) (fun ds M q ex hl h => ok__law_tells T.C_Code ds M q ex hl h)
theorem fd__law_draw {G : Gx} (T : Tx G.K G.mg) : Fd G 1 2 T.f__law_draw s__law_draw :=
  fd_of T.F__law_draw sc__law_draw T.b__law_draw (fun X W B => der__law_draw T  X W B) (fun ds M q ex hl h => ok__law_draw  ds M q ex hl h)
theorem fd__law_word_at {G : Gx} (T : Tx G.K G.mg) : Fd G 1 3 T.f__law_word_at s__law_word_at :=
  fd_of T.F__law_word_at sc__law_word_at T.b__law_word_at (fun X W B => der__law_word_at T  X W B) (fun ds M q ex hl h => ok__law_word_at  ds M q ex hl h)
theorem fd__law_entries {G : Gx} (T : Tx G.K G.mg) : Fd G 2 2 T.f__law_entries s__law_entries :=
  fd_of T.F__law_entries sc__law_entries T.b__law_entries (fun X W B => der__law_entries T (fd__law_word_at T) X W B) (fun ds M q ex hl h => ok__law_entries  ds M q ex hl h)
theorem fd__law_end {G : Gx} (T : Tx G.K G.mg) : Fd G 3 2 T.f__law_end s__law_end :=
  fd_of T.F__law_end sc__law_end T.b__law_end (fun X W B => der__law_end T (fd__law_entries T) X W B) (fun ds M q ex hl h => ok__law_end  ds M q ex hl h)
theorem fd__law_begins {G : Gx} (T : Tx G.K G.mg) : Fd G 1 2 T.f__law_begins s__law_begins :=
  fd_of T.F__law_begins sc__law_begins T.b__law_begins (fun X W B => der__law_begins T  X W B) (fun ds M q ex hl h => ok__law_begins  ds M q ex hl h)
theorem fd__law_settled {G : Gx} (T : Tx G.K G.mg) : Fd G 2 3 T.f__law_settled s__law_settled :=
  fd_of T.F__law_settled sc__law_settled T.b__law_settled (fun X W B => der__law_settled T (fd__law_begins T) X W B) (fun ds M q ex hl h => ok__law_settled  ds M q ex hl h)
theorem fd__law_beside {G : Gx} (T : Tx G.K G.mg) : Fd G 3 4 T.f__law_beside s__law_beside :=
  fd_of T.F__law_beside sc__law_beside T.b__law_beside (fun X W B => der__law_beside T (fd__law_settled T) X W B) (fun ds M q ex hl h => ok__law_beside  ds M q ex hl h)
theorem fd__law_next {G : Gx} (T : Tx G.K G.mg) : Fd G 4 3 T.f__law_next s__law_next :=
  fd_of T.F__law_next sc__law_next T.b__law_next (fun X W B => der__law_next T (fd__law_beside T) X W B) (fun ds M q ex hl h => ok__law_next  ds M q ex hl h)
theorem fd__law_reached {G : Gx} (T : Tx G.K G.mg) : Fd G 5 2 T.f__law_reached s__law_reached :=
  fd_of T.F__law_reached sc__law_reached T.b__law_reached (fun X W B => der__law_reached T (fd__law_next T) X W B) (fun ds M q ex hl h => ok__law_reached  ds M q ex hl h)
theorem fd_at_odds {G : Gx} (T : Tx G.K G.mg) : Fd G 1 2 T.f_at_odds s_at_odds :=
  fd_of T.F_at_odds sc_at_odds T.b_at_odds (fun X W B => der_at_odds T  X W B) (fun ds M q ex hl h => ok_at_odds  ds M q ex hl h)
theorem fd_fault {G : Gx} (T : Tx G.K G.mg) : Fd G 2 1 T.f_fault s_fault :=
  fd_of T.F_fault sc_fault T.b_fault (fun X W B => der_fault T (fd_at_odds T) X W B) (fun ds M q ex hl h => ok_fault  ds M q ex hl h)
theorem fd_Code_init {G : Gx} (T : Tx G.K G.mg) : Fd G 3 2 T.f_Code_init (s_Code_init T.C_Code T.f_by_word) :=
  fd_of T.F_Code_init sc_Code_init T.b_Code_init (fun X W B => der_Code_init T (fd_fault T) X W B) (fun ds M q ex hl h => ok_Code_init T.C_Code T.f_by_word ds M q ex hl h)
theorem fd__law_table {G : Gx} (T : Tx G.K G.mg) : Fd G 2 3 T.f__law_table s__law_table :=
  fd_of T.F__law_table sc__law_table T.b__law_table (fun X W B => der__law_table T (fd__law_draw T) X W B) (fun ds M q ex hl h => ok__law_table  ds M q ex hl h)
theorem fd__law_signs {G : Gx} (T : Tx G.K G.mg) : Fd G 2 2 T.f__law_signs s__law_signs :=
  fd_of T.F__law_signs sc__law_signs T.b__law_signs (fun X W B => der__law_signs T (fd__law_draw T) X W B) (fun ds M q ex hl h => ok__law_signs  ds M q ex hl h)
theorem fd__law_words {G : Gx} (T : Tx G.K G.mg) : Fd G 2 4 T.f__law_words s__law_words :=
  fd_of T.F__law_words sc__law_words T.b__law_words (fun X W B => der__law_words T (fd__law_draw T) X W B) (fun ds M q ex hl h => ok__law_words  ds M q ex hl h)
theorem fd__law_bytes {G : Gx} (T : Tx G.K G.mg) : Fd G 2 2 T.f__law_bytes s__law_bytes :=
  fd_of T.F__law_bytes sc__law_bytes T.b__law_bytes (fun X W B => der__law_bytes T (fd__law_draw T) X W B) (fun ds M q ex hl h => ok__law_bytes  ds M q ex hl h)
theorem fd__law_two {G : Gx} (T : Tx G.K G.mg) : Fd G 3 1 T.f__law_two s__law_two :=
  fd_of T.F__law_two sc__law_two T.b__law_two (fun X W B => der__law_two T (fd__law_table T) (fd__law_signs T) (fd__law_draw T) (fd__law_words T) (fd__law_bytes T) X W B) (fun ds M q ex hl h => ok__law_two  ds M q ex hl h)
theorem fd__law_open {G : Gx} (T : Tx G.K G.mg) : Fd G 1 2 T.f__law_open s__law_open :=
  fd_of T.F__law_open sc__law_open T.b__law_open (fun X W B => der__law_open T  X W B) (fun ds M q ex hl h => ok__law_open  ds M q ex hl h)
theorem law_top {P : Program} {w : World} {K : PySem.W.Frag} {mg : Str → Option Value} {base : Heap} (T : Tx K mg) : FnOk P w K mg base (L2.CX P w) 12 T.f_law T.fd_law ["_law_script"] (spLaw K 63) :=
  ((fn_okD (G := ⟨P, w, K, mg, base⟩) (sp := s_lawN 63) T.F_law sc_law (fun X W B => der_law (G := ⟨P, w, K, mg, base⟩) T (fd__law_tells (G := ⟨P, w, K, mg, base⟩) T) (fd__law_draw (G := ⟨P, w, K, mg, base⟩) T) (fd__law_end (G := ⟨P, w, K, mg, base⟩) T) (fd__law_reached (G := ⟨P, w, K, mg, base⟩) T) (fd_Code_init (G := ⟨P, w, K, mg, base⟩) T) (fd__law_two (G := ⟨P, w, K, mg, base⟩) T) (fd__law_open (G := ⟨P, w, K, mg, base⟩) T) X W B) (fun ds M q ex hl h => ok_law T.C_Code T.f_by_word ds M q ex hl h)).mono (by decide)).imp fun vs H Q E h => law_lift (G := ⟨P, w, K, mg, base⟩) h
end DL
open PySem PySem.W PyProof.Rows in
set_option maxRecDepth 100000 in
set_option maxHeartbeats 0 in
theorem PySem.Challenge.cw_skewread_k85_papers_looked_at_holds : PySem.Challenge.rw_skewread_k85_papers_looked_at.Holds := by
  w_on; o_law; k_head; (case hw => w_witness2)
  k_fill
  refine L2.walk_of (l := PySem.Challenge.rw_skewread_k85_papers_looked_at) (n := 63) (k := 12) (x := "_law_script") (CX := fun w => L2.CX PySem.Challenge.rw_skewread_k85_papers_looked_at.prog w) (sp := fun w => DL.spLaw _ 63) rfl (by decide) rfl ⟨rfl, by decide, by decide⟩ (fun w h Y => PySem.W.kIn_of Y) ?F (fun _ _ a ns hl _ hS => ⟨a, ns, rfl, hS, hl, fun _ _ e => e⟩) (fun w H s e s' h => by obtain ⟨_, _, _, _, _, _, _, _, _, _, _, _, z⟩ := h; exact z)
  case F =>
    intro w mg fa h KX G hmg
    refine' DL.cls_k (x := "Code") KX G ?a_1 ?pg_1 ?hd_1 ?po_1 ?sa_1 ?mk_1 ?kc_1 ?nx_1
    (case a_1 => k_is); (case pg_1 => k_is); (case hd_1 => k_is); (case po_1 => k_is); (case sa_1 => k_is); (case mk_1 => k_is); (case kc_1 => k_is)
    intro m_Code cl_Code mi_Code kc_Code
    refine' DL.glob_k (x := "by_word") (qual := "by_word") (st := DL.st_by_word) KX G ?a_2 ?l_2 ?c_2 ?k_2 ?nx_2
    (case a_2 => k_is); (case l_2 => k_is); (case c_2 => k_is); (case k_2 => k_is)
    intro m_by_word F_by_word
    refine' DL.meth_k (x := "table") (qual := "Code.table") (st := DL.st_Code_table) cl_Code KX ?a_3 ?i_3 ?l_3 ?c_3 ?k_3 ?nx_3
    (case a_3 => k_is); (case i_3 => k_is); (case l_3 => k_is); (case c_3 => k_is); (case k_3 => k_is)
    intro a_Code_table i_Code_table F_Code_table
    refine' DL.meth_k (x := "live") (qual := "Code.live") (st := DL.st_Code_live) cl_Code KX ?a_4 ?i_4 ?l_4 ?c_4 ?k_4 ?nx_4
    (case a_4 => k_is); (case i_4 => k_is); (case l_4 => k_is); (case c_4 => k_is); (case k_4 => k_is)
    intro a_Code_live i_Code_live F_Code_live
    refine' DL.meth_k (x := "sign") (qual := "Code.sign") (st := DL.st_Code_sign) cl_Code KX ?a_5 ?i_5 ?l_5 ?c_5 ?k_5 ?nx_5
    (case a_5 => k_is); (case i_5 => k_is); (case l_5 => k_is); (case c_5 => k_is); (case k_5 => k_is)
    intro a_Code_sign i_Code_sign F_Code_sign
    refine' DL.glob_k (x := "entry_at") (qual := "entry_at") (st := DL.st_entry_at) KX G ?a_6 ?l_6 ?c_6 ?k_6 ?nx_6
    (case a_6 => k_is); (case l_6 => k_is); (case c_6 => k_is); (case k_6 => k_is)
    intro m_entry_at F_entry_at
    refine' DL.glob_k (x := "settled") (qual := "settled") (st := DL.st_settled) KX G ?a_7 ?l_7 ?c_7 ?k_7 ?nx_7
    (case a_7 => k_is); (case l_7 => k_is); (case c_7 => k_is); (case k_7 => k_is)
    intro m_settled F_settled
    refine' DL.glob_k (x := "grown") (qual := "grown") (st := DL.st_grown) KX G ?a_8 ?l_8 ?c_8 ?k_8 ?nx_8
    (case a_8 => k_is); (case l_8 => k_is); (case c_8 => k_is); (case k_8 => k_is)
    intro m_grown F_grown
    refine' DL.glob_k (x := "alike_steps") (qual := "alike_steps") (st := DL.st_alike_steps) KX G ?a_9 ?l_9 ?c_9 ?k_9 ?nx_9
    (case a_9 => k_is); (case l_9 => k_is); (case c_9 => k_is); (case k_9 => k_is)
    intro m_alike_steps F_alike_steps
    refine' DL.glob_k (x := "next_steps") (qual := "next_steps") (st := DL.st_next_steps) KX G ?a_10 ?l_10 ?c_10 ?k_10 ?nx_10
    (case a_10 => k_is); (case l_10 => k_is); (case c_10 => k_is); (case k_10 => k_is)
    intro m_next_steps F_next_steps
    refine' DL.meth_k (x := "longest") (qual := "Code.longest") (st := DL.st_Code_longest) cl_Code KX ?a_11 ?i_11 ?l_11 ?c_11 ?k_11 ?nx_11
    (case a_11 => k_is); (case i_11 => k_is); (case l_11 => k_is); (case c_11 => k_is); (case k_11 => k_is)
    intro a_Code_longest i_Code_longest F_Code_longest
    refine' DL.glob_k (x := "sign_from") (qual := "sign_from") (st := DL.st_sign_from) KX G ?a_12 ?l_12 ?c_12 ?k_12 ?nx_12
    (case a_12 => k_is); (case l_12 => k_is); (case c_12 => k_is); (case k_12 => k_is)
    intro m_sign_from F_sign_from
    refine' DL.glob_k (x := "spilt") (qual := "spilt") (st := DL.st_spilt) KX G ?a_13 ?l_13 ?c_13 ?k_13 ?nx_13
    (case a_13 => k_is); (case l_13 => k_is); (case c_13 => k_is); (case k_13 => k_is)
    intro m_spilt F_spilt
    refine' DL.glob_k (x := "spill") (qual := "spill") (st := DL.st_spill) KX G ?a_14 ?l_14 ?c_14 ?k_14 ?nx_14
    (case a_14 => k_is); (case l_14 => k_is); (case c_14 => k_is); (case k_14 => k_is)
    intro m_spill F_spill
    refine' DL.glob_k (x := "is_end") (qual := "is_end") (st := DL.st_is_end) KX G ?a_15 ?l_15 ?c_15 ?k_15 ?nx_15
    (case a_15 => k_is); (case l_15 => k_is); (case c_15 => k_is); (case k_15 => k_is)
    intro m_is_end F_is_end
    refine' DL.glob_k (x := "shows_apart") (qual := "shows_apart") (st := DL.st_shows_apart) KX G ?a_16 ?l_16 ?c_16 ?k_16 ?nx_16
    (case a_16 => k_is); (case l_16 => k_is); (case c_16 => k_is); (case k_16 => k_is)
    intro m_shows_apart F_shows_apart
    refine' DL.glob_k (x := "_law_tells") (qual := "_law_tells") (st := DL.st__law_tells) KX G ?a_17 ?l_17 ?c_17 ?k_17 ?nx_17
    (case a_17 => k_is); (case l_17 => k_is); (case c_17 => k_is); (case k_17 => k_is)
    intro m__law_tells F__law_tells
    refine' DL.glob_k (x := "_law_draw") (qual := "_law_draw") (st := DL.st__law_draw) KX G ?a_18 ?l_18 ?c_18 ?k_18 ?nx_18
    (case a_18 => k_is); (case l_18 => k_is); (case c_18 => k_is); (case k_18 => k_is)
    intro m__law_draw F__law_draw
    refine' DL.glob_k (x := "_law_word_at") (qual := "_law_word_at") (st := DL.st__law_word_at) KX G ?a_19 ?l_19 ?c_19 ?k_19 ?nx_19
    (case a_19 => k_is); (case l_19 => k_is); (case c_19 => k_is); (case k_19 => k_is)
    intro m__law_word_at F__law_word_at
    refine' DL.glob_k (x := "_law_entries") (qual := "_law_entries") (st := DL.st__law_entries) KX G ?a_20 ?l_20 ?c_20 ?k_20 ?nx_20
    (case a_20 => k_is); (case l_20 => k_is); (case c_20 => k_is); (case k_20 => k_is)
    intro m__law_entries F__law_entries
    refine' DL.glob_k (x := "_law_end") (qual := "_law_end") (st := DL.st__law_end) KX G ?a_21 ?l_21 ?c_21 ?k_21 ?nx_21
    (case a_21 => k_is); (case l_21 => k_is); (case c_21 => k_is); (case k_21 => k_is)
    intro m__law_end F__law_end
    refine' DL.glob_k (x := "_law_begins") (qual := "_law_begins") (st := DL.st__law_begins) KX G ?a_22 ?l_22 ?c_22 ?k_22 ?nx_22
    (case a_22 => k_is); (case l_22 => k_is); (case c_22 => k_is); (case k_22 => k_is)
    intro m__law_begins F__law_begins
    refine' DL.glob_k (x := "_law_settled") (qual := "_law_settled") (st := DL.st__law_settled) KX G ?a_23 ?l_23 ?c_23 ?k_23 ?nx_23
    (case a_23 => k_is); (case l_23 => k_is); (case c_23 => k_is); (case k_23 => k_is)
    intro m__law_settled F__law_settled
    refine' DL.glob_k (x := "_law_beside") (qual := "_law_beside") (st := DL.st__law_beside) KX G ?a_24 ?l_24 ?c_24 ?k_24 ?nx_24
    (case a_24 => k_is); (case l_24 => k_is); (case c_24 => k_is); (case k_24 => k_is)
    intro m__law_beside F__law_beside
    refine' DL.glob_k (x := "_law_next") (qual := "_law_next") (st := DL.st__law_next) KX G ?a_25 ?l_25 ?c_25 ?k_25 ?nx_25
    (case a_25 => k_is); (case l_25 => k_is); (case c_25 => k_is); (case k_25 => k_is)
    intro m__law_next F__law_next
    refine' DL.glob_k (x := "_law_reached") (qual := "_law_reached") (st := DL.st__law_reached) KX G ?a_26 ?l_26 ?c_26 ?k_26 ?nx_26
    (case a_26 => k_is); (case l_26 => k_is); (case c_26 => k_is); (case k_26 => k_is)
    intro m__law_reached F__law_reached
    refine' DL.glob_k (x := "at_odds") (qual := "at_odds") (st := DL.st_at_odds) KX G ?a_27 ?l_27 ?c_27 ?k_27 ?nx_27
    (case a_27 => k_is); (case l_27 => k_is); (case c_27 => k_is); (case k_27 => k_is)
    intro m_at_odds F_at_odds
    refine' DL.glob_k (x := "fault") (qual := "fault") (st := DL.st_fault) KX G ?a_28 ?l_28 ?c_28 ?k_28 ?nx_28
    (case a_28 => k_is); (case l_28 => k_is); (case c_28 => k_is); (case k_28 => k_is)
    intro m_fault F_fault
    refine' DL.meth_k (x := "__init__") (qual := "Code.__init__") (st := DL.st_Code_init) cl_Code KX ?a_29 ?i_29 ?l_29 ?c_29 ?k_29 ?nx_29
    (case a_29 => k_is); (case i_29 => k_is); (case l_29 => k_is); (case c_29 => k_is); (case k_29 => k_is)
    intro a_Code_init i_Code_init F_Code_init
    refine' DL.glob_k (x := "_law_table") (qual := "_law_table") (st := DL.st__law_table) KX G ?a_30 ?l_30 ?c_30 ?k_30 ?nx_30
    (case a_30 => k_is); (case l_30 => k_is); (case c_30 => k_is); (case k_30 => k_is)
    intro m__law_table F__law_table
    refine' DL.glob_k (x := "_law_signs") (qual := "_law_signs") (st := DL.st__law_signs) KX G ?a_31 ?l_31 ?c_31 ?k_31 ?nx_31
    (case a_31 => k_is); (case l_31 => k_is); (case c_31 => k_is); (case k_31 => k_is)
    intro m__law_signs F__law_signs
    refine' DL.glob_k (x := "_law_words") (qual := "_law_words") (st := DL.st__law_words) KX G ?a_32 ?l_32 ?c_32 ?k_32 ?nx_32
    (case a_32 => k_is); (case l_32 => k_is); (case c_32 => k_is); (case k_32 => k_is)
    intro m__law_words F__law_words
    refine' DL.glob_k (x := "_law_bytes") (qual := "_law_bytes") (st := DL.st__law_bytes) KX G ?a_33 ?l_33 ?c_33 ?k_33 ?nx_33
    (case a_33 => k_is); (case l_33 => k_is); (case c_33 => k_is); (case k_33 => k_is)
    intro m__law_bytes F__law_bytes
    refine' DL.glob_k (x := "_law_two") (qual := "_law_two") (st := DL.st__law_two) KX G ?a_34 ?l_34 ?c_34 ?k_34 ?nx_34
    (case a_34 => k_is); (case l_34 => k_is); (case c_34 => k_is); (case k_34 => k_is)
    intro m__law_two F__law_two
    refine' DL.glob_k (x := "_law_open") (qual := "_law_open") (st := DL.st__law_open) KX G ?a_35 ?l_35 ?c_35 ?k_35 ?nx_35
    (case a_35 => k_is); (case l_35 => k_is); (case c_35 => k_is); (case k_35 => k_is)
    intro m__law_open F__law_open
    refine' DL.glob_k (x := "law") (qual := "law") (st := DL.st_law) KX G ?a_36 ?l_36 ?c_36 ?k_36 ?nx_36
    (case a_36 => k_is); (case l_36 => k_is); (case c_36 => k_is); (case k_36 => k_is)
    intro m_law F_law
    refine' DL.na_k (f := "pairs") cl_Code KX ?a_37 ?nx_37
    (case a_37 => k_is)
    intro na_Code_pairs
    refine' DL.na_k (f := "readings") cl_Code KX ?a_38 ?nx_38
    (case a_38 => k_is)
    intro na_Code_readings
    refine' DL.na_k (f := "words") cl_Code KX ?a_39 ?nx_39
    (case a_39 => k_is)
    intro na_Code_words
    refine' DL.none_k (x := "abs") KX G ?a_40 ?nx_40
    (case a_40 => k_is)
    intro n_abs
    refine' DL.none_k (x := "any") KX G ?a_41 ?nx_41
    (case a_41 => k_is)
    intro n_any
    refine' DL.none_k (x := "bool") KX G ?a_42 ?nx_42
    (case a_42 => k_is)
    intro n_bool
    refine' DL.none_k (x := "int") KX G ?a_43 ?nx_43
    (case a_43 => k_is)
    intro n_int
    refine' DL.none_k (x := "isinstance") KX G ?a_44 ?nx_44
    (case a_44 => k_is)
    intro n_isinstance
    refine' DL.none_k (x := "len") KX G ?a_45 ?nx_45
    (case a_45 => k_is)
    intro n_len
    refine' DL.none_k (x := "list") KX G ?a_46 ?nx_46
    (case a_46 => k_is)
    intro n_list
    refine' DL.none_k (x := "max") KX G ?a_47 ?nx_47
    (case a_47 => k_is)
    intro n_max
    refine' DL.none_k (x := "min") KX G ?a_48 ?nx_48
    (case a_48 => k_is)
    intro n_min
    refine' DL.none_k (x := "range") KX G ?a_49 ?nx_49
    (case a_49 => k_is)
    intro n_range
    refine' DL.none_k (x := "sorted") KX G ?a_50 ?nx_50
    (case a_50 => k_is)
    intro n_sorted
    refine' DL.none_k (x := "tuple") KX G ?a_51 ?nx_51
    (case a_51 => k_is)
    intro n_tuple
    refine' DL.first_k KX G ?a_52 ?l_52 ?l1_52 ?l2_52 ?l3_52 ?nx_52
    (case a_52 => k_is); (case l_52 => k_is); (case l1_52 => k_is); (case l2_52 => k_is); (case l3_52 => k_is)
    intro m_FIRST_STATE r_FIRST_STATE
    cases hmg.symm.trans m_law
    exact ⟨_, DL.law_b F_law, fun base _ _ => DL.law_top { C_Code := _, cl_Code := cl_Code, m_Code := m_Code, m_by_word := m_by_word, f_by_word := _, fd_by_word := _, F_by_word := F_by_word, b_by_word := F_by_word.binds (ps := ["pair"]) (fun _ _ _ _ _ _ us hl => match us, hl with | [_], _ => rfl), me_Code_table := ⟨a_Code_table, i_Code_table, F_Code_table.kp⟩, f_Code_table := _, fd_Code_table := _, F_Code_table := F_Code_table, b_Code_table := F_Code_table.binds (ps := ["self"]) (fun _ _ _ _ _ _ us hl => match us, hl with | [_], _ => rfl), me_Code_live := ⟨a_Code_live, i_Code_live, F_Code_live.kp⟩, f_Code_live := _, fd_Code_live := _, F_Code_live := F_Code_live, b_Code_live := F_Code_live.binds (ps := ["self", "row"]) (fun _ _ _ _ _ _ us hl => match us, hl with | [_, _], _ => rfl), me_Code_sign := ⟨a_Code_sign, i_Code_sign, F_Code_sign.kp⟩, f_Code_sign := _, fd_Code_sign := _, F_Code_sign := F_Code_sign, b_Code_sign := F_Code_sign.binds (ps := ["self", "word"]) (fun _ _ _ _ _ _ us hl => match us, hl with | [_, _], _ => rfl), m_entry_at := m_entry_at, f_entry_at := _, fd_entry_at := _, F_entry_at := F_entry_at, b_entry_at := F_entry_at.binds (ps := ["other", "row"]) (fun _ _ _ _ _ _ us hl => match us, hl with | [_, _], _ => rfl), m_settled := m_settled, f_settled := _, fd_settled := _, F_settled := F_settled, b_settled := F_settled.binds (ps := ["other", "left", "right"]) (fun _ _ _ _ _ _ us hl => match us, hl with | [_, _, _], _ => rfl), m_grown := m_grown, f_grown := _, fd_grown := _, F_grown := F_grown, b_grown := F_grown.binds (ps := ["other", "state", "word"]) (fun _ _ _ _ _ _ us hl => match us, hl with | [_, _, _], _ => rfl), m_alike_steps := m_alike_steps, f_alike_steps := _, fd_alike_steps := _, F_alike_steps := F_alike_steps, b_alike_steps := F_alike_steps.binds (ps := ["one", "other", "state"]) (fun _ _ _ _ _ _ us hl => match us, hl with | [_, _, _], _ => rfl), m_next_steps := m_next_steps, f_next_steps := _, fd_next_steps := _, F_next_steps := F_next_steps, b_next_steps := F_next_steps.binds (ps := ["one", "other", "state"]) (fun _ _ _ _ _ _ us hl => match us, hl with | [_, _, _], _ => rfl), me_Code_longest := ⟨a_Code_longest, i_Code_longest, F_Code_longest.kp⟩, f_Code_longest := _, fd_Code_longest := _, F_Code_longest := F_Code_longest, b_Code_longest := F_Code_longest.binds (ps := ["self"]) (fun _ _ _ _ _ _ us hl => match us, hl with | [_], _ => rfl), m_sign_from := m_sign_from, f_sign_from := _, fd_sign_from := _, F_sign_from := F_sign_from, b_sign_from := F_sign_from.binds (ps := ["code", "row", "at"]) (fun _ _ _ _ _ _ us hl => match us, hl with | [_, _, _], _ => rfl), m_spilt := m_spilt, f_spilt := _, fd_spilt := _, F_spilt := F_spilt, b_spilt := F_spilt.binds (ps := ["code", "row"]) (fun _ _ _ _ _ _ us hl => match us, hl with | [_, _], _ => rfl), m_spill := m_spill, f_spill := _, fd_spill := _, F_spill := F_spill, b_spill := F_spill.binds (ps := ["code", "row"]) (fun _ _ _ _ _ _ us hl => match us, hl with | [_, _], _ => rfl), m_is_end := m_is_end, f_is_end := _, fd_is_end := _, F_is_end := F_is_end, b_is_end := F_is_end.binds (ps := ["other", "state"]) (fun _ _ _ _ _ _ us hl => match us, hl with | [_, _], _ => rfl), m_shows_apart := m_shows_apart, f_shows_apart := _, fd_shows_apart := _, F_shows_apart := F_shows_apart, b_shows_apart := F_shows_apart.binds (ps := ["one", "other", "states"]) (fun _ _ _ _ _ _ us hl => match us, hl with | [_, _, _], _ => rfl), m__law_tells := m__law_tells, f__law_tells := _, fd__law_tells := _, F__law_tells := F__law_tells, b__law_tells := F__law_tells.binds (ps := ["_law_mine", "_law_theirs", "_law_states", "_law_due"]) (fun _ _ _ _ _ _ us hl => match us, hl with | [_, _, _, _], _ => rfl), m__law_draw := m__law_draw, f__law_draw := _, fd__law_draw := _, F__law_draw := F__law_draw, b__law_draw := F__law_draw.binds (ps := ["_law_hand", "_law_many"]) (fun _ _ _ _ _ _ us hl => match us, hl with | [_, _], _ => rfl), m__law_word_at := m__law_word_at, f__law_word_at := _, fd__law_word_at := _, F__law_word_at := F__law_word_at, b__law_word_at := F__law_word_at.binds (ps := ["_law_table_here", "_law_row", "_law_at"]) (fun _ _ _ _ _ _ us hl => match us, hl with | [_, _, _], _ => rfl), m__law_entries := m__law_entries, f__law_entries := _, fd__law_entries := _, F__law_entries := F__law_entries, b__law_entries := F__law_entries.binds (ps := ["_law_table_here", "_law_row"]) (fun _ _ _ _ _ _ us hl => match us, hl with | [_, _], _ => rfl), m__law_end := m__law_end, f__law_end := _, fd__law_end := _, F__law_end := F__law_end, b__law_end := F__law_end.binds (ps := ["_law_other", "_law_state"]) (fun _ _ _ _ _ _ us hl => match us, hl with | [_, _], _ => rfl), m__law_begins := m__law_begins, f__law_begins := _, fd__law_begins := _, F__law_begins := F__law_begins, b__law_begins := F__law_begins.binds (ps := ["_law_table_here", "_law_row"]) (fun _ _ _ _ _ _ us hl => match us, hl with | [_, _], _ => rfl), m__law_settled := m__law_settled, f__law_settled := _, fd__law_settled := _, F__law_settled := F__law_settled, b__law_settled := F__law_settled.binds (ps := ["_law_table_here", "_law_left", "_law_right"]) (fun _ _ _ _ _ _ us hl => match us, hl with | [_, _, _], _ => rfl), m__law_beside := m__law_beside, f__law_beside := _, fd__law_beside := _, F__law_beside := F__law_beside, b__law_beside := F__law_beside.binds (ps := ["_law_table_here", "_law_long", "_law_short", "_law_unlike"]) (fun _ _ _ _ _ _ us hl => match us, hl with | [_, _, _, _], _ => rfl), m__law_next := m__law_next, f__law_next := _, fd__law_next := _, F__law_next := F__law_next, b__law_next := F__law_next.binds (ps := ["_law_one", "_law_other", "_law_state"]) (fun _ _ _ _ _ _ us hl => match us, hl with | [_, _, _], _ => rfl), m__law_reached := m__law_reached, f__law_reached := _, fd__law_reached := _, F__law_reached := F__law_reached, b__law_reached := F__law_reached.binds (ps := ["_law_one", "_law_other"]) (fun _ _ _ _ _ _ us hl => match us, hl with | [_, _], _ => rfl), m_at_odds := m_at_odds, f_at_odds := _, fd_at_odds := _, F_at_odds := F_at_odds, b_at_odds := F_at_odds.binds (ps := ["one", "other"]) (fun _ _ _ _ _ _ us hl => match us, hl with | [_, _], _ => rfl), m_fault := m_fault, f_fault := _, fd_fault := _, F_fault := F_fault, b_fault := F_fault.binds (ps := ["table"]) (fun _ _ _ _ _ _ us hl => match us, hl with | [_], _ => rfl), mk_Code := ⟨mi_Code, a_Code_init, i_Code_init, kc_Code⟩, f_Code_init := _, fd_Code_init := _, F_Code_init := F_Code_init, b_Code_init := F_Code_init.binds (ps := ["self", "table"]) (fun _ _ _ _ _ _ us hl => match us, hl with | [_, _], _ => rfl), m__law_table := m__law_table, f__law_table := _, fd__law_table := _, F__law_table := F__law_table, b__law_table := F__law_table.binds (ps := ["_law_hand", "_law_words_here", "_law_signs_here"]) (fun _ _ _ _ _ _ us hl => match us, hl with | [_, _, _], _ => rfl), m__law_signs := m__law_signs, f__law_signs := _, fd__law_signs := _, F__law_signs := F__law_signs, b__law_signs := F__law_signs.binds (ps := ["_law_hand", "_law_many"]) (fun _ _ _ _ _ _ us hl => match us, hl with | [_, _], _ => rfl), m__law_words := m__law_words, f__law_words := _, fd__law_words := _, F__law_words := F__law_words, b__law_words := F__law_words.binds (ps := ["_law_hand", "_law_some", "_law_most", "_law_longest"]) (fun _ _ _ _ _ _ us hl => match us, hl with | [_, _, _, _], _ => rfl), m__law_bytes := m__law_bytes, f__law_bytes := _, fd__law_bytes := _, F__law_bytes := F__law_bytes, b__law_bytes := F__law_bytes.binds (ps := ["_law_hand", "_law_most"]) (fun _ _ _ _ _ _ us hl => match us, hl with | [_, _], _ => rfl), m__law_two := m__law_two, f__law_two := _, fd__law_two := _, F__law_two := F__law_two, b__law_two := F__law_two.binds (ps := ["_law_hand"]) (fun _ _ _ _ _ _ us hl => match us, hl with | [_], _ => rfl), m__law_open := m__law_open, f__law_open := _, fd__law_open := _, F__law_open := F__law_open, b__law_open := F__law_open.binds (ps := ["_law_script", "_law_place"]) (fun _ _ _ _ _ _ us hl => match us, hl with | [_, _], _ => rfl), f_law := _, fd_law := _, F_law := F_law, b_law := F_law.binds (ps := ["_law_script"]) (fun _ _ _ _ _ _ us hl => match us, hl with | [_], _ => rfl), na_Code_pairs := na_Code_pairs, na_Code_readings := na_Code_readings, na_Code_words := na_Code_words, n_abs := n_abs, n_any := n_any, n_bool := n_bool, n_int := n_int, n_isinstance := n_isinstance, n_len := n_len, n_list := n_list, n_max := n_max, n_min := n_min, n_range := n_range, n_sorted := n_sorted, n_tuple := n_tuple, a_FIRST_STATE := _, m_FIRST_STATE := m_FIRST_STATE, r_FIRST_STATE := r_FIRST_STATE }⟩
#print axioms PySem.Challenge.cw_skewread_k85_papers_looked_at_holds
